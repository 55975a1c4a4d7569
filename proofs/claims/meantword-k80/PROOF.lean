import PyProof.Rows.All
import Wide.All
import OpenK.AllK
import Wide.FinOn
import HandS.ForMost
import HandS.Exc
import HandS.Codes
import HandS.Defaults
import HandS.Property
import HandS.IsInst
import HandS.TupAny
import HandS.More
import HandS.WordsExc
import HandS.ExcInit
import HandS.TryMany
import HandS.ExcField
import HandS.Lambda
import HandS.Style
import HandS.Walk
import HandS.MakeKwOnly
import HandS.WideBits
import HandS.HeadHook4
import KE.KExcSuper
import HandS.Nested
import KE.GoesEnum
import HandS.SortRule
import HandS.Zip
import KE.KOpsOwn
import PyProof.InstNe
import PyProof.Rows.ListStrD
import HandS.Small
import KE.KRevSl
import HandS.HeadWalk
import HandS.HeadNt
import HandS.Head2
import PySem.Challenge.RW_meantword_k80_whole_sessions_and_new_spe
set_option Elab.async false
set_option linter.all false
set_option maxRecDepth 100000
set_option maxHeartbeats 8000000
/-! W0: the text by places; callable defs; the state (B, M): what stands for good, what may change -/
namespace Mw
open PySem PySem.Spec PyProof.Rows L2

/-! ### the text -/
def top (i : Nat) : Stmt := PySem.Challenge.pw_meantword_k80_whole_sessions_and_new_spe.main.body.getD i (.Pass ⟨0, 0, 0, 0⟩)

/-! ### defs, methods, classes that may be called -/
section
variable (P : Program) (w : World) (K : PySem.W.Frag) (mg : Str → Option Value) (base : Heap)
structure Cl (CX : CXT) (k : Nat) (x : Str) (sp : Sp) : Prop where
  ex : ∃ (f : Addr) (fd : FuncData) (ps : List Str), FnOk P w K mg base CX k f fd ps sp ∧ mg x = some (.ref f) ∧ PySem.W.keepIn K (.ref f) = true ∧ Binds K fd ps []
structure Mt (CX : CXT) (k : Nat) (C : Addr) (m : Str) (sp : Sp) : Prop where
  ex : ∃ (f : Addr) (fd : FuncData) (ps : List Str), L2.Cls K C ∧ Meth K C m f ∧ FnOk P w K mg base CX k f fd ps sp ∧ Binds K fd ps []
structure Mc (CX : CXT) (k : Nat) (x : Str) (C : Addr) (sp : Sp) (dvs : List V) : Prop where
  ex : ∃ (f : Addr) (fd : FuncData) (ps : List Str) (ds : List Value), Mk K C f ∧ FnOk P w K mg base CX k f fd ps sp ∧ mg x = some (.ref C) ∧ Binds K fd ps ds ∧ Vals dvs ds
structure Pr (CX : CXT) (k : Nat) (C : Addr) (n : Str) (sp : Sp) : Prop where
  ex : ∃ (p g : Addr) (fd : FuncData) (ps : List Str), L2.Cls K C ∧ PropOf K C n p g ∧ FnOk P w K mg base CX k g fd ps sp ∧ Binds K fd ps []
end
section
variable {X : Cx} {CX : CXT} {k j : Nat} {C : Addr} {x m : Str} {sp : Sp} {dvs : List V} {p pos apos : Pos} {e o : Expr} {es : List Expr} {ta : TE} {t : TA} {E : XK}
theorem pe_f (c : Cl X.prog X.w X.K X.mg X.base CX k x sp) (hr : Room j X.A) (hk : k ≤ j) (hg : Gl X x) (hx : Passes CX X E) (ha : PA X (e :: es) t)
    (hdb : (x == ("__debug__" : Str)) = false := by decide) (he : starEach (e :: es) X.env = (false, eval e X.env) :: starEach es X.env := by rfl) (hpl : (backTo pos (starEach es X.env)).any (·.1) = false := by rfl) :
    PE X (.Call (.Name x p) (e :: es) [] pos) (tCall sp [] E t) := by
  obtain ⟨f, fd, ps, F, hm, kp, b⟩ := c.ex
  exact pe_call F (hr.mono hk) hg hm kp b .nil hx ha hdb he hpl
theorem pe_n (c : Mc X.prog X.w X.K X.mg X.base CX k x C sp dvs) (hr : Room j X.A) (hk : k + 1 ≤ j) (hg : Gl X x) (hx : Passes CX X E) (ha : PA X (e :: es) t)
    (hdb : (x == ("__debug__" : Str)) = false := by decide) (he : starEach (e :: es) X.env = (false, eval e X.env) :: starEach es X.env := by rfl) (hpl : (backTo pos (starEach es X.env)).any (·.1) = false := by rfl) :
    PE X (.Call (.Name x p) (e :: es) [] pos) (tMake C sp dvs E t) := by
  obtain ⟨f, fd, ps, ds, M, F, hm, b, d⟩ := c.ex
  exact pe_make M F (hr.mono hk) hg hm b d hx ha hdb he hpl
theorem pe_m {pl : Sem Bool} (c : Mt X.prog X.w X.K X.mg X.base CX k C m sp) (hr : Room j X.A) (hk : k ≤ j) (hx : Passes CX X E) (he : PE X o ta) (ha : PA X (e :: es) t)
    (hst : starEach (e :: es) X.env = (false, eval e X.env) :: starEach es X.env := by rfl) (hpl : (backTo pos (starEach es X.env)).any (·.1) = false := by rfl)
    (ht : eval (.Call (.Attribute o m apos) (e :: es) [] pos) X.env = (do
      let ov ← eval o X.env
      standAt apos.atName
      let (f, first) ← holding [ov] (getMethod ov m pl)
      callWith pos f first (backTo pos (starEach (e :: es) X.env)) (backToKw pos (keywordEach [] X.env))) := by rfl) :
    PE X (.Call (.Attribute o m apos) (e :: es) [] pos) (tMeth C m sp [] E ta t) := by
  obtain ⟨f, fd, ps, c, me, F, b⟩ := c.ex
  exact pe_meth he c me F (hr.mono hk) b .nil hx ha hst hpl ht
theorem pe_m0 {pl : Sem Bool} (c : Mt X.prog X.w X.K X.mg X.base CX k C m sp) (hr : Room j X.A) (hk : k ≤ j) (hx : Passes CX X E) (he : PE X o ta)
    (ht : eval (.Call (.Attribute o m apos) [] [] pos) X.env = (do
      let ov ← eval o X.env
      standAt apos.atName
      let (f, first) ← holding [ov] (getMethod ov m pl)
      callWith pos f first (backTo pos (starEach [] X.env)) (backToKw pos (keywordEach [] X.env))) := by rfl) :
    PE X (.Call (.Attribute o m apos) [] [] pos) (tMeth C m sp [] E ta tNil) := by
  obtain ⟨f, fd, ps, c, me, F, b⟩ := c.ex
  exact pe_meth0 he c me F (hr.mono hk) b .nil hx ht
theorem pe_p {n : Str} (c : Pr X.prog X.w X.K X.mg X.base CX k C n sp) (hr : Room j X.A) (hk : k + 1 ≤ j) (hx : Passes CX X.nox E) (he : PE X o ta)
    (hab : attributeBase o n X.env (eval o X.env) = eval o X.env := by rfl) : PE X (.Attribute o n pos) (tProp C sp [] E ta) := by
  obtain ⟨p, g, fd, ps, c, hp, F, b⟩ := c.ex
  exact pe_prop he c hp F (hr.mono hk) b .nil hx hab
end
section
variable {P : Program} {w : World} {K : PySem.W.Frag} {mg : Str → Option Value} {base : Heap}
/-- a def of the module (no defaults) by its body -/
theorem mkCl {CX : CXT} {x : Str} {st : Stmt} {f : Addr} {N ps : List Str} {k : Nat} {sp : Sp} (F : ∃ fd, FunD K x x (defArgs st) (defBody st) (defScope st) [] [] f fd) (hm : mg x = some (.ref f)) (S : FnScope N ps (defScope st))
    (hb : ∀ (kV doc pm : Value) (an : Option Addr) (cdv ct : Value) (us : List Value), us.length = ps.length → bindArgs (PySem.W.fnOf x x (defArgs st) (defBody st) (defScope st) .none kV doc pm an cdv ct) ⟨us, []⟩ = pure (ps.zip us))
    (len : ∀ vs H Q E, sp vs H Q E → vs.length = ps.length)
    (hbody : ∀ (cdv : Value) (A : Around) (outer : List Env) (s : Shared) (H : Hp) (vs : List V) (Q : VK) (E : XK), Room k (A.deeper (envOfC x (defScope st) s.heap.objs.size f cdv)) → sp vs H Q E →
      ∃ t, PSs (cxOf CX P w K mg base N x (defScope st) f cdv A outer s H E) (defBody st) t ∧ t { nx := fun _ H' => Q .non H', rt := Q } (start N vs) H) : Cl P w K mg base CX (k + 1) x sp := by
  obtain ⟨fd, F⟩ := F
  exact ⟨f, fd, ps, F.ok S len hbody, hm, F.kp, F.bindsN hb⟩
theorem mkMt {CX : CXT} {m qual : Str} {st : Stmt} {C f : Addr} {N ps : List Str} {k : Nat} {sp : Sp} (F : ∃ fd, FunD K m qual (defArgs st) (defBody st) (defScope st) [] [] f fd) (c : L2.Cls K C) (me : Meth K C m f) (S : FnScope N ps (defScope st))
    (hb : ∀ (kV doc pm : Value) (an : Option Addr) (cdv ct : Value) (us : List Value), us.length = ps.length → bindArgs (PySem.W.fnOf m qual (defArgs st) (defBody st) (defScope st) .none kV doc pm an cdv ct) ⟨us, []⟩ = pure (ps.zip us))
    (len : ∀ vs H Q E, sp vs H Q E → vs.length = ps.length)
    (hbody : ∀ (cdv : Value) (A : Around) (outer : List Env) (s : Shared) (H : Hp) (vs : List V) (Q : VK) (E : XK), Room k (A.deeper (envOfC qual (defScope st) s.heap.objs.size f cdv)) → sp vs H Q E →
      ∃ t, PSs (cxOf CX P w K mg base N qual (defScope st) f cdv A outer s H E) (defBody st) t ∧ t { nx := fun _ H' => Q .non H', rt := Q } (start N vs) H) : Mt P w K mg base CX (k + 1) C m sp := by
  obtain ⟨fd, F⟩ := F
  exact ⟨f, fd, ps, c, me, F.ok S len hbody, F.bindsN hb⟩
theorem mkPr {CX : CXT} {m qual : Str} {st : Stmt} {C p f : Addr} {N ps : List Str} {k : Nat} {sp : Sp} (F : ∃ fd, FunD K m qual (defArgs st) (defBody st) (defScope st) [] [] f fd) (c : L2.Cls K C) (me : PropOf K C m p f) (S : FnScope N ps (defScope st))
    (hb : ∀ (kV doc pm : Value) (an : Option Addr) (cdv ct : Value) (us : List Value), us.length = ps.length → bindArgs (PySem.W.fnOf m qual (defArgs st) (defBody st) (defScope st) .none kV doc pm an cdv ct) ⟨us, []⟩ = pure (ps.zip us))
    (len : ∀ vs H Q E, sp vs H Q E → vs.length = ps.length)
    (hbody : ∀ (cdv : Value) (A : Around) (outer : List Env) (s : Shared) (H : Hp) (vs : List V) (Q : VK) (E : XK), Room k (A.deeper (envOfC qual (defScope st) s.heap.objs.size f cdv)) → sp vs H Q E →
      ∃ t, PSs (cxOf CX P w K mg base N qual (defScope st) f cdv A outer s H E) (defBody st) t ∧ t { nx := fun _ H' => Q .non H', rt := Q } (start N vs) H) : Pr P w K mg base CX (k + 1) C m sp := by
  obtain ⟨fd, F⟩ := F
  exact ⟨p, f, fd, ps, c, me, F.ok S len hbody, F.bindsN hb⟩

/-- .. where nothing is raised -/
theorem mkCl0 {x : Str} {st : Stmt} {f : Addr} {N ps : List Str} {k : Nat} {sp : Sp} (F : ∃ fd, FunD K x x (defArgs st) (defBody st) (defScope st) [] [] f fd) (hm : mg x = some (.ref f)) (S : FnScope N ps (defScope st))
    (hb : ∀ (kV doc pm : Value) (an : Option Addr) (cdv ct : Value) (us : List Value), us.length = ps.length → bindArgs (PySem.W.fnOf x x (defArgs st) (defBody st) (defScope st) .none kV doc pm an cdv ct) ⟨us, []⟩ = pure (ps.zip us))
    (len : ∀ vs H Q E, sp vs H Q E → vs.length = ps.length)
    (hbody : ∀ (cdv : Value) (A : Around) (outer : List Env) (s : Shared) (H : Hp) (vs : List V) (Q : VK) (E : XK), Room k (A.deeper (envOfC x (defScope st) s.heap.objs.size f cdv)) → sp vs H Q E →
      ∃ t, PSs (cxOf CX0 P w K mg base N x (defScope st) f cdv A outer s H E).nox (defBody st) t ∧ t { nx := fun _ H' => Q .non H', rt := Q } (start N vs) H) : Cl P w K mg base CX0 (k + 1) x sp :=
  mkCl F hm S hb len fun cdv A outer s H vs Q E hr h => let ⟨t, a, b⟩ := hbody cdv A outer s H vs Q E hr h
    ⟨t, a.nox, b⟩
theorem mkMt0 {m qual : Str} {st : Stmt} {C f : Addr} {N ps : List Str} {k : Nat} {sp : Sp} (F : ∃ fd, FunD K m qual (defArgs st) (defBody st) (defScope st) [] [] f fd) (c : L2.Cls K C) (me : Meth K C m f) (S : FnScope N ps (defScope st))
    (hb : ∀ (kV doc pm : Value) (an : Option Addr) (cdv ct : Value) (us : List Value), us.length = ps.length → bindArgs (PySem.W.fnOf m qual (defArgs st) (defBody st) (defScope st) .none kV doc pm an cdv ct) ⟨us, []⟩ = pure (ps.zip us))
    (len : ∀ vs H Q E, sp vs H Q E → vs.length = ps.length)
    (hbody : ∀ (cdv : Value) (A : Around) (outer : List Env) (s : Shared) (H : Hp) (vs : List V) (Q : VK) (E : XK), Room k (A.deeper (envOfC qual (defScope st) s.heap.objs.size f cdv)) → sp vs H Q E →
      ∃ t, PSs (cxOf CX0 P w K mg base N qual (defScope st) f cdv A outer s H E).nox (defBody st) t ∧ t { nx := fun _ H' => Q .non H', rt := Q } (start N vs) H) : Mt P w K mg base CX0 (k + 1) C m sp :=
  mkMt F c me S hb len fun cdv A outer s H vs Q E hr h => let ⟨t, a, b⟩ := hbody cdv A outer s H vs Q E hr h
    ⟨t, a.nox, b⟩
theorem mkPr0 {m qual : Str} {st : Stmt} {C p f : Addr} {N ps : List Str} {k : Nat} {sp : Sp} (F : ∃ fd, FunD K m qual (defArgs st) (defBody st) (defScope st) [] [] f fd) (c : L2.Cls K C) (me : PropOf K C m p f) (S : FnScope N ps (defScope st))
    (hb : ∀ (kV doc pm : Value) (an : Option Addr) (cdv ct : Value) (us : List Value), us.length = ps.length → bindArgs (PySem.W.fnOf m qual (defArgs st) (defBody st) (defScope st) .none kV doc pm an cdv ct) ⟨us, []⟩ = pure (ps.zip us))
    (len : ∀ vs H Q E, sp vs H Q E → vs.length = ps.length)
    (hbody : ∀ (cdv : Value) (A : Around) (outer : List Env) (s : Shared) (H : Hp) (vs : List V) (Q : VK) (E : XK), Room k (A.deeper (envOfC qual (defScope st) s.heap.objs.size f cdv)) → sp vs H Q E →
      ∃ t, PSs (cxOf CX0 P w K mg base N qual (defScope st) f cdv A outer s H E).nox (defBody st) t ∧ t { nx := fun _ H' => Q .non H', rt := Q } (start N vs) H) : Pr P w K mg base CX0 (k + 1) C m sp :=
  mkPr F c me S hb len fun cdv A outer s H vs Q E hr h => let ⟨t, a, b⟩ := hbody cdv A outer s H vs Q E hr h
    ⟨t, a.nox, b⟩
end

/-! ### the state: B stands for good, M may change -/
structure Wd (B M H : Hp) : Prop where
  b : Same B H
  m : Same M H
  d : ∀ a o, B a = some o → M a = none
theorem Same.new {H : Hp} {p : Addr} {o : HO} (h : H p = none) : Same H (upd H p o) := fun a u e => by
  rw [upd_ne (ne_of_none e h)]
  exact e
section
variable {B M H H' : Hp} {p : Addr} {o o' : HO}
theorem Wd.mono (w : Wd B M H) (e : Same H H') : Wd B M H' := ⟨w.b.trans e, w.m.trans e, w.d⟩
theorem Wd.fb (w : Wd B M H) (h : H p = none) : B p = none := w.b.free h
theorem Wd.fm (w : Wd B M H) (h : H p = none) : M p = none := w.m.free h
theorem Wd.sb (w : Wd B M H) (h : H p = none) : Same B (upd B p o) := Same.new (w.fb h)
/-- a new object that stands for good -/
theorem Wd.new (w : Wd B M H) (h : H p = none) : Wd (upd B p o) M (upd H p o) := by
  refine ⟨fun a u e => ?_, w.m.trans (Same.new h), fun a u e => ?_⟩
  · by_cases q : a = p
    · subst q
      rw [upd_same] at e ⊢
      exact e
    · rw [upd_ne q] at e ⊢
      exact w.b _ _ e
  · by_cases q : a = p
    · subst q
      exact w.fm h
    · rw [upd_ne q] at e
      exact w.d _ _ e
/-- a new object that may change -/
theorem Wd.newM (w : Wd B M H) (h : H p = none) : Wd B (upd M p o) (upd H p o) := by
  refine ⟨w.b.trans (Same.new h), fun a u e => ?_, fun a u e => ?_⟩
  · by_cases q : a = p
    · subst q
      rw [upd_same] at e ⊢
      exact e
    · rw [upd_ne q] at e ⊢
      exact w.m _ _ e
  · rw [upd_ne (ne_of_none e (w.fb h))]
    exact w.d _ _ e
theorem Wd.bn (w : Wd B M H) (h : M p = some o) : B p = none := by
  cases q : B p with
  | none => rfl
  | some u =>
    rw [w.d _ _ q] at h
    cases h
/-- a change -/
theorem Wd.put (w : Wd B M H) (h : M p = some o) : Wd B (upd M p o') (upd H p o') := by
  have hb := w.bn h
  refine ⟨fun a u e => ?_, fun a u e => ?_, fun a u e => ?_⟩
  · rw [upd_ne (ne_of_none e hb)]
    exact w.b _ _ e
  · by_cases q : a = p
    · subst q
      rw [upd_same] at e ⊢
      exact e
    · rw [upd_ne q] at e ⊢
      exact w.m _ _ e
  · rw [upd_ne (ne_of_none e hb)]
    exact w.d _ _ e
/-- from now on it stands for good -/
theorem Wd.frz (w : Wd B (upd M p o) H) (h : M p = none) : Wd (upd B p o) M H := by
  have hb : B p = none := w.bn upd_same
  refine ⟨fun a u e => ?_, fun a u e => ?_, fun a u e => ?_⟩
  · by_cases q : a = p
    · subst q
      rw [upd_same] at e
      exact w.m _ _ (by rw [upd_same]; exact e)
    · rw [upd_ne q] at e
      exact w.b _ _ e
  · exact w.m _ _ (by rw [upd_ne (ne_of_none e h)]; exact e)
  · by_cases q : a = p
    · subst q
      exact h
    · rw [upd_ne q] at e
      have z := w.d _ _ e
      rw [upd_ne q] at z
      exact z
/-- less is known -/
theorem Wd.less {M' : Hp} (w : Wd B M H) (e : Same M' M) : Wd B M' H := ⟨w.b, e.trans w.m, fun a o h => e.free (w.d a o h)⟩
theorem Wd.bm (w : Wd B M H) {a b : Addr} (h : B a = some o) (h' : M b = some o') : a ≠ b := ne_of_none h (w.bn h')
end
/-- how a def hands back a value: what stands for good has grown -/
def Ret (B M : Hp) (R : V → Hp → Prop) (Q : VK) : Prop := ∀ v B' H', Same B B' → Wd B' M H' → R v B' → Q v H'
/-- .. what may change has changed -/
def RetM (B : Hp) (R : V → Hp → Hp → Prop) (Q : VK) : Prop := ∀ v B' M' H', Same B B' → Wd B' M' H' → R v B' M' → Q v H'
/-! ### comprehensions whose elements leave all that is known as it is; pre i is the list behind i turns -/
theorem lc_pre {J : It} {n : Nat} {G : Hp → Prop} {Y : Nat → Hp → V → Hp → Prop} (wk : Walk J n G Y) {g : TG} {tt : TT} {te : TE} {vs : List Nat} {σ : L2.St} {H1 : Hp} {D : Addr} {Qd : Hp → Prop} (pre : Nat → List V) (h0 : pre 0 = []) (hz : ∀ i, i ≤ n → (pre i).length < sizeLine)
    (hD : H1 D = none) (hG : ∀ H, Same H1 H → G H)
    (hs : ∀ i x H H' (Qe : V → Hp → Prop) (Qn : Hp → Prop), i < n → Same H1 H → Y i H x H' → (∀ y H4, pre (i + 1) = pre i ++ [y] → Same H H4 → Qe y H4) → (∀ H4, pre (i + 1) = pre i → Same H H4 → Qn H4) →
      g x (wipe σ vs) H' fun σ2 H2 => wipe σ2 vs = wipe σ vs ∧ tt σ2 H2 fun b H3 => if b = true then te σ2 H3 Qe else Qn H3)
    (hd : ∀ H, Same H1 H → H D = some (.lst (pre n)) → Qd H) :
    ∃ W : Nat → Nat → Hp → Prop, (∃ m, W 0 m (upd H1 D (.lst []))) ∧ ∀ i m H, W i m H →
      (J.stop i H ∧ Qd H) ∨ (J.go i H ∧ ∃ Nx : Hp → Prop, (∀ H', Nx H' → ∃ m', m' < m ∧ W (i + 1) m' H') ∧ ∀ x H', J.yld i H x H' → g x (wipe σ vs) H' fun σ2 H2 => wipe σ2 vs = wipe σ vs ∧ tt σ2 H2 fun b H3 =>
        if b = true then te σ2 H3 fun y H4 => ∃ acc, H4 D = some (.lst acc) ∧ acc.length < sizeLine ∧ Nx (upd H4 D (.lst (acc ++ [y]))) else Nx H3) := by
  refine lc_it wk (fun i H => Same H1 H ∧ H D = some (.lst (pre i))) ⟨Same.new hD, by rw [h0, upd_same]⟩ (fun i H _ p => hG H p.1) (fun i x H H' hi p y => ?_) (fun H p => hd H p.1 p.2)
  obtain ⟨p1, p2⟩ := p
  refine hs i x H H' _ _ hi p1 y (fun y H4 e s4 => ⟨pre i, s4 _ _ p2, hz i (Nat.le_of_lt hi), fun a o ea => ?_, ?_⟩) (fun H4 e s4 => ⟨p1.trans s4, by rw [e]; exact s4 _ _ p2⟩)
  · rw [upd_ne (ne_of_none ea hD)]
    exact s4 _ _ (p1 _ _ ea)
  · rw [upd_same, e]
theorem small_line {n : Nat} (h : n ≤ 100000) : n < sizeLine := Nat.lt_of_le_of_lt h (by decide)
theorem take_snoc {α : Type} {l : List α} {i : Nat} {x : α} (h : l[i]? = some x) : l.take (i + 1) = l.take i ++ [x] := by
  obtain ⟨hi, e⟩ := List.getElem?_eq_some_iff.mp h
  rw [List.take_succ_eq_append_getElem hi, e]
/-- .. each element a function of the turn's item -/
theorem lc_map {α : Type} {J : It} {G : Hp → Prop} {Y : Nat → Hp → V → Hp → Prop} (xs : List α) (f : α → V) (wk : Walk J xs.length G Y) {g : TG} {te : TE} {vs : List Nat} {σ : L2.St} {H1 : Hp} {D : Addr} {Qd : Hp → Prop} (hz : xs.length ≤ 100000)
    (hD : H1 D = none) (hG : ∀ H, Same H1 H → G H)
    (hs : ∀ i a x H H' (Qe : V → Hp → Prop), xs[i]? = some a → Same H1 H → Y i H x H' → (∀ H4, Same H H4 → Qe (f a) H4) → g x (wipe σ vs) H' fun σ2 H2 => wipe σ2 vs = wipe σ vs ∧ te σ2 H2 Qe)
    (hd : ∀ H, Same H1 H → H D = some (.lst (xs.map f)) → Qd H) :
    ∃ W : Nat → Nat → Hp → Prop, (∃ m, W 0 m (upd H1 D (.lst []))) ∧ ∀ i m H, W i m H →
      (J.stop i H ∧ Qd H) ∨ (J.go i H ∧ ∃ Nx : Hp → Prop, (∀ H', Nx H' → ∃ m', m' < m ∧ W (i + 1) m' H') ∧ ∀ x H', J.yld i H x H' → g x (wipe σ vs) H' fun σ2 H2 => wipe σ2 vs = wipe σ vs ∧ tYes σ2 H2 fun b H3 =>
        if b = true then te σ2 H3 fun y H4 => ∃ acc, H4 D = some (.lst acc) ∧ acc.length < sizeLine ∧ Nx (upd H4 D (.lst (acc ++ [y]))) else Nx H3) := by
  refine lc_pre wk (fun i => (xs.take i).map f) rfl (fun i hi => small_line (by rw [List.length_map, List.length_take]; omega)) hD hG (fun i x H H' Qe Qn hi s y h1 _ => ?_) (fun H s h => hd H s (by rw [h, List.take_length]))
  obtain ⟨a, ha⟩ : ∃ a, xs[i]? = some a := ⟨xs[i], by simp [hi]⟩
  refine hs i a x H H' Qe ha s y fun H4 s4 => h1 _ _ ?_ s4
  rw [take_snoc ha, List.map_append, List.map_cons, List.map_nil]
/-! ### instances in the making -/
theorem Wd.made {B M H : Hp} {x dx C : Addr} (w : Wd B M H) (hx : H x = none) (hd : H dx = none) (ne : dx ≠ x) : Wd (upd B dx (.own x)) (upd M x (.ins C dx [])) (upd (upd H dx (.own x)) x (.ins C dx [])) :=
  (w.new hd).newM (by rw [upd_ne (fun z => ne z.symm)]; exact hx)
theorem putF_ne {f g : Str} {v x : V} {r : List (Str × V)} (h : ¬ g = f) : putF f v ((g, x) :: r) = (g, x) :: putF f v r := by
  show (if g = f then _ else _) = _
  rw [if_neg h]
theorem putF_eq {f : Str} {v x : V} {r : List (Str × V)} : putF f v ((f, x) :: r) = (f, v) :: r := by
  show (if f = f then _ else _) = _
  rw [if_pos rfl]
theorem look_ne {f g : Str} {x : V} {r : List (Str × V)} (h : ¬ f = g) : List.lookup f ((g, x) :: r) = r.lookup f := by
  rw [List.lookup_cons]
  rw [show (f == g) = false from beq_eq_false_iff_ne.mpr h]
theorem look_eq {f : Str} {x : V} {r : List (Str × V)} : List.lookup f ((f, x) :: r) = some x := by
  rw [List.lookup_cons, beq_self_eq_true]
/-- a property that hands back a field -/
theorem mkGet {P : Program} {w : World} {K : PySem.W.Frag} {mg : Str → Option Value} {base : Heap} {m qual fld : Str} {st : Stmt} {C p f : Addr} {p1 p2 p3 : Pos} (F : ∃ fd, FunD K m qual (defArgs st) (defBody st) (defScope st) [] [] f fd) (c : L2.Cls K C) (na : NoAttr K C fld)
    (pr : PropOf K C m p f) (S : FnScope ["self"] ["self"] (defScope st)) (hb : ∀ (kV doc pm : Value) (an : Option Addr) (cdv ct : Value) (us : List Value), us.length = 1 → bindArgs (PySem.W.fnOf m qual (defArgs st) (defBody st) (defScope st) .none kV doc pm an cdv ct) ⟨us, []⟩ = pure ((["self"] : List Str).zip us))
    (hbody : defBody st = [.Return (some (.Attribute (.Name "self" p1) fld p2)) p3]) : Pr P w K mg base CX0 1 C m (getSp C fld) := by
  obtain ⟨fd, F⟩ := F
  have b := F.bindsN (ps := ["self"]) hb
  obtain ⟨oc, od, dV, kV, doc, pm, an, cdv, ct, osl, rfl, lk, hcd, _, _⟩ := F.ex
  exact ⟨p, f, _, ["self"], c, pr, fn_getter (k := 0) lk hcd S rfl hbody c na, b⟩
/-- self.f = y in the making -/
theorem fld_step {K : PySem.W.Frag} {B M H : Hp} {x C dx : Addr} {fs : List (Str × V)} {f : Str} {y : V} {R : Hp → Prop} (wd : Wd B (upd M x (.ins C dx fs)) H) (c : L2.Cls K C) (na : NoAttr K C f) (hl : fs.length < 1000)
    (k : ∀ H', Wd B (upd M x (.ins C dx (putF f y fs))) H' → R H') :
    ∃ a C' dx' fs', V.ref x = .ref a ∧ H a = some (.ins C' dx' fs') ∧ L2.Cls K C' ∧ NoAttr K C' f ∧ fs'.length < 1000 ∧ R (upd H a (.ins C' dx' (putF f y fs'))) := by
  refine ⟨x, C, dx, fs, rfl, wd.m _ _ upd_same, c, na, hl, k _ ?_⟩
  have h := wd.put (o' := .ins C dx (putF f y fs)) upd_same
  rw [upd_upd] at h
  exact h
/-- isinstance(x, C), x an instance of the own class C -/
theorem tyx_own {K : PySem.W.Frag} {H : Hp} {a C dx : Addr} {fs : List (Str × V)} (c : C8.InsC K C) (h : H a = some (.ins C dx fs)) : TyX K H (.ref a) (.ref C) := .base (.ins h c.cl c.ha c.hn c.htk c.hm)
theorem sz0 : ([] : List V).length ≤ sizeLine := Nat.zero_le _
theorem sz1 {a : V} : [a].length ≤ sizeLine := (by decide : 1 ≤ sizeLine)
theorem sz2 {a b : V} : [a, b].length ≤ sizeLine := (by decide : 2 ≤ sizeLine)
theorem sz3 {a b c : V} : [a, b, c].length ≤ sizeLine := (by decide : 3 ≤ sizeLine)
theorem sz4 {a b c d : V} : [a, b, c, d].length ≤ sizeLine := (by decide : 4 ≤ sizeLine)
theorem sz5 {a b c d e : V} : [a, b, c, d, e].length ≤ sizeLine := (by decide : 5 ≤ sizeLine)
theorem sz6 {a b c d e f : V} : [a, b, c, d, e, f].length ≤ sizeLine := (by decide : 6 ≤ sizeLine)
end Mw
/-! W1: the facts of the top -/
namespace Mw
open PySem PySem.Spec PyProof.Rows L2
theorem bt_int : bootBuiltins "int" = some (.type "int") := by decide +kernel
theorem bt_bool : bootBuiltins "bool" = some (.type "bool") := by decide +kernel
theorem bt_str : bootBuiltins "str" = some (.type "str") := by decide +kernel
theorem bt_tuple : bootBuiltins "tuple" = some (.type "tuple") := by decide +kernel
theorem bt_list : bootBuiltins "list" = some (.type "list") := by decide +kernel
theorem bt_dict : bootBuiltins "dict" = some (.type "dict") := by decide +kernel
theorem bt_enumerate : bootBuiltins "enumerate" = some (.type "enumerate") := by decide +kernel
theorem bt_range : bootBuiltins "range" = some (.type "range") := by decide +kernel
theorem bt_zip : bootBuiltins "zip" = some (.type "zip") := by decide +kernel
theorem bt_super : bootBuiltins "super" = some (.type "super") := by decide +kernel
theorem bt_isinstance : bootBuiltins "isinstance" = some (.builtin "isinstance") := by decide +kernel
theorem bt_all : bootBuiltins "all" = some (.builtin "all") := by decide +kernel
theorem bt_len : bootBuiltins "len" = some (.builtin "len") := by decide +kernel
theorem bt_sorted : bootBuiltins "sorted" = some (.builtin "sorted") := by decide +kernel
theorem bt_min : bootBuiltins "min" = some (.builtin "min") := by decide +kernel
theorem bt_abs : bootBuiltins "abs" = some (.builtin "abs") := by decide +kernel
theorem bt_divmod : bootBuiltins "divmod" = some (.builtin "divmod") := by decide +kernel
theorem bt_repr : bootBuiltins "repr" = some (.builtin "repr") := by decide +kernel
/-- the getter of a property -/
def pga (K : PySem.W.Frag) (C : Addr) (m : Str) : Addr := match PySem.W.findIn K (.ref C) m with
  | some (some (.ref p)) => (match PySem.W.recIn K p "property" with
    | some (.ref g :: _) => g
    | _ => 0)
  | _ => 0
def partL : List (Str × Int) := [("press", 2), ("back", 2), ("learn", 3), ("forget", 2), ("slips", 5), ("undo", 1)]
/-- the written dict PARTS -/
def PartsAt (w : World) (K : PySem.W.Frag) (mg : Str → Option Value) : Prop := ∃ a, mg "PARTS" = some (.ref a) ∧ (a == sysModules) = false ∧ ∀ q ∈ partL, KDct K w a q.1 (.int q.2)
/-- what the written part says of the class at C, whose __init__ at f calls super's (ValueError's) -/
structure SupI (K : PySem.W.Frag) (C f : Addr) (qual : Str) (params : Arguments) (body : List Stmt) (scope : Scope) : Prop where
  fn : ∃ (oc : Value) (od : Option Addr) (osl : Array (Option Value)) (kV doc pm ct : Value) (an : Option Addr) (cda cc : Addr),
    K.lookup f = some ⟨oc, od, .func (PySem.W.fnX "__init__" qual params body scope [("__class__", cc)] .none kV doc pm an (.ref cda) ct), osl⟩ ∧ PySem.W.codeIn K (.ref cda) qual = true ∧
    (∃ (cl : Value) (cld : Option Addr) (csl : Array (Option Value)), K.lookup cc = some ⟨cl, cld, .cell (some (.ref C)), csl⟩) ∧
    ∃ (ccl : Value) (cdd : Option Addr) (vs : Array Value) (ccs : Array (Option Value)) (tf : Tok), K.lookup cda = some ⟨ccl, cdd, .fields vs, ccs⟩ ∧ vs[2]? = some (.str "/claim/cut.py" tf)
  mro : PySem.W.mroIn K C (.ref C) = some true
  op : PySem.W.nsIn K cStatics "thirdparty.any" = some none
  sup : PySem.W.ks_superIn K C C "__init__" = some (some (.builtin "ValueError.__init__"))
  ve : PySem.W.subIn K (.ref C) (.type "ValueError") = some true
  ii : PySem.W.findIn K (.ref C) "__init__" = some (some (.ref f))
  ti : PySem.W.typeIn K (.ref f) = some (.type "function")
/-- what the top leaves behind (the head shows it) -/
structure Tx (P : Program) (w : World) (K : PySem.W.Frag) (mg : Str → Option Value) : Prop where
  n_isinstance : mg "isinstance" = none
  n_int : mg "int" = none
  n_bool : mg "bool" = none
  n_str : mg "str" = none
  n_all : mg "all" = none
  n_len : mg "len" = none
  n_tuple : mg "tuple" = none
  n_list : mg "list" = none
  n_dict : mg "dict" = none
  n_enumerate : mg "enumerate" = none
  n_sorted : mg "sorted" = none
  n_min : mg "min" = none
  n_range : mg "range" = none
  n_abs : mg "abs" = none
  n_divmod : mg "divmod" = none
  n_zip : mg "zip" = none
  n_repr : mg "repr" = none
  n_super : mg "super" = none
  k_LETTERS : ∃ u, mg "LETTERS" = some u ∧ RelV (.str "abcdefghijklmnopqrstuvwxyz") u
  k_LONGEST : ∃ u, mg "LONGEST" = some u ∧ RelV (.int 5) u
  k_DEAREST : ∃ u, mg "DEAREST" = some u ∧ RelV (.int 9) u
  k_MOST_WORDS : ∃ u, mg "MOST_WORDS" = some u ∧ RelV (.int 4) u
  k_DEAREST_OWN : ∃ u, mg "DEAREST_OWN" = some u ∧ RelV (.int 999) u
  k_LONGEST_TEXT : ∃ u, mg "LONGEST_TEXT" = some u ∧ RelV (.int 400) u
  g_Slips : mg "Slips" = some (.ref (He.ga K "Slips"))
  g_Speller : mg "Speller" = some (.ref (He.ga K "Speller"))
  g_Moment : mg "Moment" = some (.ref (He.ga K "Moment"))
  g_Session : mg "Session" = some (.ref (He.ga K "Session"))
  g_SpellError : mg "SpellError" = some (.ref (He.ga K "SpellError"))
  g_BadSlips : mg "BadSlips" = some (.ref (He.ga K "BadSlips"))
  g_BadText : mg "BadText" = some (.ref (He.ga K "BadText"))
  g_BadEntry : mg "BadEntry" = some (.ref (He.ga K "BadEntry"))
  g_NoWord : mg "NoWord" = some (.ref (He.ga K "NoWord"))
  g_BadNumber : mg "BadNumber" = some (.ref (He.ga K "BadNumber"))
  g_BadDeed : mg "BadDeed" = some (.ref (He.ga K "BadDeed"))
  cl_Slips : L2.Cls K (He.ga K "Slips")
  ic_Slips : C8.InsC K (He.ga K "Slips")
  mk_Slips : Mk K (He.ga K "Slips") (He.ma K (He.ga K "Slips") "__init__")
  na_Slips_z_extra : NoAttr K (He.ga K "Slips") "z_extra"
  na_Slips_z_missing : NoAttr K (He.ga K "Slips") "z_missing"
  na_Slips_z_wrong : NoAttr K (He.ga K "Slips") "z_wrong"
  na_Slips_z_swapped : NoAttr K (He.ga K "Slips") "z_swapped"
  cl_Speller : L2.Cls K (He.ga K "Speller")
  ic_Speller : C8.InsC K (He.ga K "Speller")
  mk_Speller : Mk K (He.ga K "Speller") (He.ma K (He.ga K "Speller") "__init__")
  na_Speller_e_entries : NoAttr K (He.ga K "Speller") "e_entries"
  na_Speller_e_slips : NoAttr K (He.ga K "Speller") "e_slips"
  cl_Moment : L2.Cls K (He.ga K "Moment")
  ic_Moment : C8.InsC K (He.ga K "Moment")
  mk_Moment : Mk K (He.ga K "Moment") (He.ma K (He.ga K "Moment") "__init__")
  na_Moment_q_speller : NoAttr K (He.ga K "Moment") "q_speller"
  na_Moment_q_text : NoAttr K (He.ga K "Moment") "q_text"
  na_Moment_q_deed : NoAttr K (He.ga K "Moment") "q_deed"
  na_Moment_q_before : NoAttr K (He.ga K "Moment") "q_before"
  cl_Session : L2.Cls K (He.ga K "Session")
  ic_Session : C8.InsC K (He.ga K "Session")
  mk_Session : Mk K (He.ga K "Session") (He.ma K (He.ga K "Session") "__init__")
  na_Session_v_origin : NoAttr K (He.ga K "Session") "v_origin"
  na_Session_v_now : NoAttr K (He.ga K "Session") "v_now"
  na_Session_v_mark : NoAttr K (He.ga K "Session") "v_mark"
  gf_is_integer : mg "is_integer" = some (.ref (He.ga K "is_integer"))
  d_is_integer : ∃ fd, FunD K "is_integer" "is_integer" (defArgs (top 14)) (defBody (top 14)) (defScope (top 14)) [] [] (He.ga K "is_integer") fd
  gf_is_text : mg "is_text" = some (.ref (He.ga K "is_text"))
  d_is_text : ∃ fd, FunD K "is_text" "is_text" (defArgs (top 15)) (defBody (top 15)) (defScope (top 15)) [] [] (He.ga K "is_text") fd
  gf_is_word : mg "is_word" = some (.ref (He.ga K "is_word"))
  d_is_word : ∃ fd, FunD K "is_word" "is_word" (defArgs (top 16)) (defBody (top 16)) (defScope (top 16)) [] [] (He.ga K "is_word") fd
  gf_is_price : mg "is_price" = some (.ref (He.ga K "is_price"))
  d_is_price : ∃ fd, FunD K "is_price" "is_price" (defArgs (top 17)) (defBody (top 17)) (defScope (top 17)) [] [] (He.ga K "is_price") fd
  gf_need_text : mg "need_text" = some (.ref (He.ga K "need_text"))
  d_need_text : ∃ fd, FunD K "need_text" "need_text" (defArgs (top 18)) (defBody (top 18)) (defScope (top 18)) [] [] (He.ga K "need_text") fd
  d_Slips___init__ : ∃ fd, FunD K "__init__" "Slips.__init__" (defArgs (inClass (top 19) 0)) (defBody (inClass (top 19) 0)) (defScope (inClass (top 19) 0)) [] [("extra", .int 1), ("missing", .int 1), ("wrong", .int 1), ("swapped", .non)] (He.ma K (He.ga K "Slips") "__init__") fd
  pr_Slips_extra : PropOf K (He.ga K "Slips") "extra" (He.ma K (He.ga K "Slips") "extra") (pga K (He.ga K "Slips") "extra")
  d_Slips_extra : ∃ fd, FunD K "extra" "Slips.extra" (defArgs (inClass (top 19) 1)) (defBody (inClass (top 19) 1)) (defScope (inClass (top 19) 1)) [] [] (pga K (He.ga K "Slips") "extra") fd
  pr_Slips_missing : PropOf K (He.ga K "Slips") "missing" (He.ma K (He.ga K "Slips") "missing") (pga K (He.ga K "Slips") "missing")
  d_Slips_missing : ∃ fd, FunD K "missing" "Slips.missing" (defArgs (inClass (top 19) 2)) (defBody (inClass (top 19) 2)) (defScope (inClass (top 19) 2)) [] [] (pga K (He.ga K "Slips") "missing") fd
  pr_Slips_wrong : PropOf K (He.ga K "Slips") "wrong" (He.ma K (He.ga K "Slips") "wrong") (pga K (He.ga K "Slips") "wrong")
  d_Slips_wrong : ∃ fd, FunD K "wrong" "Slips.wrong" (defArgs (inClass (top 19) 3)) (defBody (inClass (top 19) 3)) (defScope (inClass (top 19) 3)) [] [] (pga K (He.ga K "Slips") "wrong") fd
  pr_Slips_swapped : PropOf K (He.ga K "Slips") "swapped" (He.ma K (He.ga K "Slips") "swapped") (pga K (He.ga K "Slips") "swapped")
  d_Slips_swapped : ∃ fd, FunD K "swapped" "Slips.swapped" (defArgs (inClass (top 19) 4)) (defBody (inClass (top 19) 4)) (defScope (inClass (top 19) 4)) [] [] (pga K (He.ga K "Slips") "swapped") fd
  me_Slips___eq__ : Meth K (He.ga K "Slips") "__eq__" (He.ma K (He.ga K "Slips") "__eq__")
  d_Slips___eq__ : ∃ fd, FunD K "__eq__" "Slips.__eq__" (defArgs (inClass (top 19) 5)) (defBody (inClass (top 19) 5)) (defScope (inClass (top 19) 5)) [] [] (He.ma K (He.ga K "Slips") "__eq__") fd
  gf_last_steps : mg "last_steps" = some (.ref (He.ga K "last_steps"))
  d_last_steps : ∃ fd, FunD K "last_steps" "last_steps" (defArgs (top 20)) (defBody (top 20)) (defScope (top 20)) [] [] (He.ga K "last_steps") fd
  gf_step_price : mg "step_price" = some (.ref (He.ga K "step_price"))
  d_step_price : ∃ fd, FunD K "step_price" "step_price" (defArgs (top 21)) (defBody (top 21)) (defScope (top 21)) [] [] (He.ga K "step_price") fd
  gf_price_lines : mg "price_lines" = some (.ref (He.ga K "price_lines"))
  d_price_lines : ∃ fd, FunD K "price_lines" "price_lines" (defArgs (top 22)) (defBody (top 22)) (defScope (top 22)) [] [] (He.ga K "price_lines") fd
  gf_price : mg "price" = some (.ref (He.ga K "price"))
  d_price : ∃ fd, FunD K "price" "price" (defArgs (top 23)) (defBody (top 23)) (defScope (top 23)) [] [] (He.ga K "price") fd
  gf_is_own : mg "is_own" = some (.ref (He.ga K "is_own"))
  d_is_own : ∃ fd, FunD K "is_own" "is_own" (defArgs (top 27)) (defBody (top 27)) (defScope (top 27)) [] [] (He.ga K "is_own") fd
  gf_is_entry : mg "is_entry" = some (.ref (He.ga K "is_entry"))
  d_is_entry : ∃ fd, FunD K "is_entry" "is_entry" (defArgs (top 28)) (defBody (top 28)) (defScope (top 28)) [] [] (He.ga K "is_entry") fd
  gf_need_entries : mg "need_entries" = some (.ref (He.ga K "need_entries"))
  d_need_entries : ∃ fd, FunD K "need_entries" "need_entries" (defArgs (top 29)) (defBody (top 29)) (defScope (top 29)) [] [] (He.ga K "need_entries") fd
  d_Speller___init__ : ∃ fd, FunD K "__init__" "Speller.__init__" (defArgs (inClass (top 30) 0)) (defBody (inClass (top 30) 0)) (defScope (inClass (top 30) 0)) [.non] [] (He.ma K (He.ga K "Speller") "__init__") fd
  pr_Speller_entries : PropOf K (He.ga K "Speller") "entries" (He.ma K (He.ga K "Speller") "entries") (pga K (He.ga K "Speller") "entries")
  d_Speller_entries : ∃ fd, FunD K "entries" "Speller.entries" (defArgs (inClass (top 30) 1)) (defBody (inClass (top 30) 1)) (defScope (inClass (top 30) 1)) [] [] (pga K (He.ga K "Speller") "entries") fd
  pr_Speller_slips : PropOf K (He.ga K "Speller") "slips" (He.ma K (He.ga K "Speller") "slips") (pga K (He.ga K "Speller") "slips")
  d_Speller_slips : ∃ fd, FunD K "slips" "Speller.slips" (defArgs (inClass (top 30) 2)) (defBody (inClass (top 30) 2)) (defScope (inClass (top 30) 2)) [] [] (pga K (He.ga K "Speller") "slips") fd
  me_Speller___eq__ : Meth K (He.ga K "Speller") "__eq__" (He.ma K (He.ga K "Speller") "__eq__")
  d_Speller___eq__ : ∃ fd, FunD K "__eq__" "Speller.__eq__" (defArgs (inClass (top 30) 3)) (defBody (inClass (top 30) 3)) (defScope (inClass (top 30) 3)) [] [] (He.ma K (He.ga K "Speller") "__eq__") fd
  me_Speller___contains__ : Meth K (He.ga K "Speller") "__contains__" (He.ma K (He.ga K "Speller") "__contains__")
  d_Speller___contains__ : ∃ fd, FunD K "__contains__" "Speller.__contains__" (defArgs (inClass (top 30) 6)) (defBody (inClass (top 30) 6)) (defScope (inClass (top 30) 6)) [] [] (He.ma K (He.ga K "Speller") "__contains__") fd
  me_Speller___getitem__ : Meth K (He.ga K "Speller") "__getitem__" (He.ma K (He.ga K "Speller") "__getitem__")
  d_Speller___getitem__ : ∃ fd, FunD K "__getitem__" "Speller.__getitem__" (defArgs (inClass (top 30) 7)) (defBody (inClass (top 30) 7)) (defScope (inClass (top 30) 7)) [] [] (He.ma K (He.ga K "Speller") "__getitem__") fd
  me_Speller___sub__ : Meth K (He.ga K "Speller") "__sub__" (He.ma K (He.ga K "Speller") "__sub__")
  d_Speller___sub__ : ∃ fd, FunD K "__sub__" "Speller.__sub__" (defArgs (inClass (top 30) 9)) (defBody (inClass (top 30) 9)) (defScope (inClass (top 30) 9)) [] [] (He.ma K (He.ga K "Speller") "__sub__") fd
  me_Speller_with_own : Meth K (He.ga K "Speller") "with_own" (He.ma K (He.ga K "Speller") "with_own")
  d_Speller_with_own : ∃ fd, FunD K "with_own" "Speller.with_own" (defArgs (inClass (top 30) 10)) (defBody (inClass (top 30) 10)) (defScope (inClass (top 30) 10)) [] [] (He.ma K (He.ga K "Speller") "with_own") fd
  me_Speller_ranking : Meth K (He.ga K "Speller") "ranking" (He.ma K (He.ga K "Speller") "ranking")
  d_Speller_ranking : ∃ fd, FunD K "ranking" "Speller.ranking" (defArgs (inClass (top 30) 12)) (defBody (inClass (top 30) 12)) (defScope (inClass (top 30) 12)) [] [] (He.ma K (He.ga K "Speller") "ranking") fd
  gf_place_of : mg "place_of" = some (.ref (He.ga K "place_of"))
  d_place_of : ∃ fd, FunD K "place_of" "place_of" (defArgs (top 31)) (defBody (top 31)) (defScope (top 31)) [] [] (He.ga K "place_of") fd
  gf_ranking_of : mg "ranking_of" = some (.ref (He.ga K "ranking_of"))
  d_ranking_of : ∃ fd, FunD K "ranking_of" "ranking_of" (defArgs (top 32)) (defBody (top 32)) (defScope (top 32)) [] [] (He.ga K "ranking_of") fd
  gf_meant_word : mg "meant_word" = some (.ref (He.ga K "meant_word"))
  d_meant_word : ∃ fd, FunD K "meant_word" "meant_word" (defArgs (top 33)) (defBody (top 33)) (defScope (top 33)) [] [] (He.ga K "meant_word") fd
  d_Moment___init__ : ∃ fd, FunD K "__init__" "Moment.__init__" (defArgs (inClass (top 37) 0)) (defBody (inClass (top 37) 0)) (defScope (inClass (top 37) 0)) [] [] (He.ma K (He.ga K "Moment") "__init__") fd
  gf_is_deed : mg "is_deed" = some (.ref (He.ga K "is_deed"))
  d_is_deed : ∃ fd, FunD K "is_deed" "is_deed" (defArgs (top 39)) (defBody (top 39)) (defScope (top 39)) [] [] (He.ga K "is_deed") fd
  gf_pressed : mg "pressed" = some (.ref (He.ga K "pressed"))
  d_pressed : ∃ fd, FunD K "pressed" "pressed" (defArgs (top 40)) (defBody (top 40)) (defScope (top 40)) [] [] (He.ga K "pressed") fd
  gf_shortened : mg "shortened" = some (.ref (He.ga K "shortened"))
  d_shortened : ∃ fd, FunD K "shortened" "shortened" (defArgs (top 41)) (defBody (top 41)) (defScope (top 41)) [] [] (He.ga K "shortened") fd
  gf_taught : mg "taught" = some (.ref (He.ga K "taught"))
  d_taught : ∃ fd, FunD K "taught" "taught" (defArgs (top 42)) (defBody (top 42)) (defScope (top 42)) [] [] (He.ga K "taught") fd
  gf_later_moment : mg "later_moment" = some (.ref (He.ga K "later_moment"))
  d_later_moment : ∃ fd, FunD K "later_moment" "later_moment" (defArgs (top 43)) (defBody (top 43)) (defScope (top 43)) [] [] (He.ga K "later_moment") fd
  d_Session___init__ : ∃ fd, FunD K "__init__" "Session.__init__" (defArgs (inClass (top 44) 0)) (defBody (inClass (top 44) 0)) (defScope (inClass (top 44) 0)) [] [] (He.ma K (He.ga K "Session") "__init__") fd
  pr_Session_speller : PropOf K (He.ga K "Session") "speller" (He.ma K (He.ga K "Session") "speller") (pga K (He.ga K "Session") "speller")
  d_Session_speller : ∃ fd, FunD K "speller" "Session.speller" (defArgs (inClass (top 44) 1)) (defBody (inClass (top 44) 1)) (defScope (inClass (top 44) 1)) [] [] (pga K (He.ga K "Session") "speller") fd
  pr_Session_origin : PropOf K (He.ga K "Session") "origin" (He.ma K (He.ga K "Session") "origin") (pga K (He.ga K "Session") "origin")
  d_Session_origin : ∃ fd, FunD K "origin" "Session.origin" (defArgs (inClass (top 44) 2)) (defBody (inClass (top 44) 2)) (defScope (inClass (top 44) 2)) [] [] (pga K (He.ga K "Session") "origin") fd
  pr_Session_text : PropOf K (He.ga K "Session") "text" (He.ma K (He.ga K "Session") "text") (pga K (He.ga K "Session") "text")
  d_Session_text : ∃ fd, FunD K "text" "Session.text" (defArgs (inClass (top 44) 3)) (defBody (inClass (top 44) 3)) (defScope (inClass (top 44) 3)) [] [] (pga K (He.ga K "Session") "text") fd
  pr_Session_shown : PropOf K (He.ga K "Session") "shown" (He.ma K (He.ga K "Session") "shown") (pga K (He.ga K "Session") "shown")
  d_Session_shown : ∃ fd, FunD K "shown" "Session.shown" (defArgs (inClass (top 44) 4)) (defBody (inClass (top 44) 4)) (defScope (inClass (top 44) 4)) [] [] (pga K (He.ga K "Session") "shown") fd
  me_Session___eq__ : Meth K (He.ga K "Session") "__eq__" (He.ma K (He.ga K "Session") "__eq__")
  d_Session___eq__ : ∃ fd, FunD K "__eq__" "Session.__eq__" (defArgs (inClass (top 44) 5)) (defBody (inClass (top 44) 5)) (defScope (inClass (top 44) 5)) [] [] (He.ma K (He.ga K "Session") "__eq__") fd
  me_Session_do : Meth K (He.ga K "Session") "do" (He.ma K (He.ga K "Session") "do")
  d_Session_do : ∃ fd, FunD K "do" "Session.do" (defArgs (inClass (top 44) 13)) (defBody (inClass (top 44) 13)) (defScope (inClass (top 44) 13)) [] [] (He.ma K (He.ga K "Session") "do") fd
  me_Session_do_all : Meth K (He.ga K "Session") "do_all" (He.ma K (He.ga K "Session") "do_all")
  d_Session_do_all : ∃ fd, FunD K "do_all" "Session.do_all" (defArgs (inClass (top 44) 14)) (defBody (inClass (top 44) 14)) (defScope (inClass (top 44) 14)) [] [] (He.ma K (He.ga K "Session") "do_all") fd
  me_Session_deeds : Meth K (He.ga K "Session") "deeds" (He.ma K (He.ga K "Session") "deeds")
  d_Session_deeds : ∃ fd, FunD K "deeds" "Session.deeds" (defArgs (inClass (top 44) 15)) (defBody (inClass (top 44) 15)) (defScope (inClass (top 44) 15)) [] [] (He.ma K (He.ga K "Session") "deeds") fd
  me_Session_twin : Meth K (He.ga K "Session") "twin" (He.ma K (He.ga K "Session") "twin")
  d_Session_twin : ∃ fd, FunD K "twin" "Session.twin" (defArgs (inClass (top 44) 16)) (defBody (inClass (top 44) 16)) (defScope (inClass (top 44) 16)) [] [] (He.ma K (He.ga K "Session") "twin") fd
  gf_deeds_to : mg "deeds_to" = some (.ref (He.ga K "deeds_to"))
  d_deeds_to : ∃ fd, FunD K "deeds_to" "deeds_to" (defArgs (top 45)) (defBody (top 45)) (defScope (top 45)) [] [] (He.ga K "deeds_to") fd
  gf__law_begin : mg "_law_begin" = some (.ref (He.ga K "_law_begin"))
  d__law_begin : ∃ fd, FunD K "_law_begin" "_law_begin" (defArgs (top 47)) (defBody (top 47)) (defScope (top 47)) [] [] (He.ga K "_law_begin") fd
  gf__law_take : mg "_law_take" = some (.ref (He.ga K "_law_take"))
  d__law_take : ∃ fd, FunD K "_law_take" "_law_take" (defArgs (top 48)) (defBody (top 48)) (defScope (top 48)) [] [] (He.ga K "_law_take") fd
  gf__law_pick : mg "_law_pick" = some (.ref (He.ga K "_law_pick"))
  d__law_pick : ∃ fd, FunD K "_law_pick" "_law_pick" (defArgs (top 49)) (defBody (top 49)) (defScope (top 49)) [] [] (He.ga K "_law_pick") fd
  gf__law_letters : mg "_law_letters" = some (.ref (He.ga K "_law_letters"))
  d__law_letters : ∃ fd, FunD K "_law_letters" "_law_letters" (defArgs (top 50)) (defBody (top 50)) (defScope (top 50)) [] [] (He.ga K "_law_letters") fd
  gf__law_string : mg "_law_string" = some (.ref (He.ga K "_law_string"))
  d__law_string : ∃ fd, FunD K "_law_string" "_law_string" (defArgs (top 51)) (defBody (top 51)) (defScope (top 51)) [] [] (He.ga K "_law_string") fd
  gf__law_prices : mg "_law_prices" = some (.ref (He.ga K "_law_prices"))
  d__law_prices : ∃ fd, FunD K "_law_prices" "_law_prices" (defArgs (top 52)) (defBody (top 52)) (defScope (top 52)) [] [] (He.ga K "_law_prices") fd
  gf__law_case : mg "_law_case" = some (.ref (He.ga K "_law_case"))
  d__law_case : ∃ fd, FunD K "_law_case" "_law_case" (defArgs (top 53)) (defBody (top 53)) (defScope (top 53)) [] [] (He.ga K "_law_case") fd
  gf__law_slips : mg "_law_slips" = some (.ref (He.ga K "_law_slips"))
  d__law_slips : ∃ fd, FunD K "_law_slips" "_law_slips" (defArgs (top 54)) (defBody (top 54)) (defScope (top 54)) [] [] (He.ga K "_law_slips") fd
  gf__law_speller : mg "_law_speller" = some (.ref (He.ga K "_law_speller"))
  d__law_speller : ∃ fd, FunD K "_law_speller" "_law_speller" (defArgs (top 55)) (defBody (top 55)) (defScope (top 55)) [] [] (He.ga K "_law_speller") fd
  gf__law_other_letter : mg "_law_other_letter" = some (.ref (He.ga K "_law_other_letter"))
  d__law_other_letter : ∃ fd, FunD K "_law_other_letter" "_law_other_letter" (defArgs (top 56)) (defBody (top 56)) (defScope (top 56)) [] [] (He.ga K "_law_other_letter") fd
  gf__law_text : mg "_law_text" = some (.ref (He.ga K "_law_text"))
  d__law_text : ∃ fd, FunD K "_law_text" "_law_text" (defArgs (top 57)) (defBody (top 57)) (defScope (top 57)) [] [] (He.ga K "_law_text") fd
  gf__law_price : mg "_law_price" = some (.ref (He.ga K "_law_price"))
  d__law_price : ∃ fd, FunD K "_law_price" "_law_price" (defArgs (top 58)) (defBody (top 58)) (defScope (top 58)) [] [] (He.ga K "_law_price") fd
  gf__law_totals : mg "_law_totals" = some (.ref (He.ga K "_law_totals"))
  d__law_totals : ∃ fd, FunD K "_law_totals" "_law_totals" (defArgs (top 59)) (defBody (top 59)) (defScope (top 59)) [] [] (He.ga K "_law_totals") fd
  gf__law_meant : mg "_law_meant" = some (.ref (He.ga K "_law_meant"))
  d__law_meant : ∃ fd, FunD K "_law_meant" "_law_meant" (defArgs (top 60)) (defBody (top 60)) (defScope (top 60)) [] [] (He.ga K "_law_meant") fd
  gf__law_is_int : mg "_law_is_int" = some (.ref (He.ga K "_law_is_int"))
  d__law_is_int : ∃ fd, FunD K "_law_is_int" "_law_is_int" (defArgs (top 61)) (defBody (top 61)) (defScope (top 61)) [] [] (He.ga K "_law_is_int") fd
  gf__law_is_text : mg "_law_is_text" = some (.ref (He.ga K "_law_is_text"))
  d__law_is_text : ∃ fd, FunD K "_law_is_text" "_law_is_text" (defArgs (top 62)) (defBody (top 62)) (defScope (top 62)) [] [] (He.ga K "_law_is_text") fd
  gf__law_sheet : mg "_law_sheet" = some (.ref (He.ga K "_law_sheet"))
  d__law_sheet : ∃ fd, FunD K "_law_sheet" "_law_sheet" (defArgs (top 63)) (defBody (top 63)) (defScope (top 63)) [] [] (He.ga K "_law_sheet") fd
  gf__law_act : mg "_law_act" = some (.ref (He.ga K "_law_act"))
  d__law_act : ∃ fd, FunD K "_law_act" "_law_act" (defArgs (top 64)) (defBody (top 64)) (defScope (top 64)) [] [] (He.ga K "_law_act") fd
  gf__law_changed_entries : mg "_law_changed_entries" = some (.ref (He.ga K "_law_changed_entries"))
  d__law_changed_entries : ∃ fd, FunD K "_law_changed_entries" "_law_changed_entries" (defArgs (top 65)) (defBody (top 65)) (defScope (top 65)) [] [] (He.ga K "_law_changed_entries") fd
  gf__law_done : mg "_law_done" = some (.ref (He.ga K "_law_done"))
  d__law_done : ∃ fd, FunD K "_law_done" "_law_done" (defArgs (top 66)) (defBody (top 66)) (defScope (top 66)) [] [] (He.ga K "_law_done") fd
  gf__law_stands : mg "_law_stands" = some (.ref (He.ga K "_law_stands"))
  d__law_stands : ∃ fd, FunD K "_law_stands" "_law_stands" (defArgs (top 67)) (defBody (top 67)) (defScope (top 67)) [] [] (He.ga K "_law_stands") fd
  gf__law_caught : mg "_law_caught" = some (.ref (He.ga K "_law_caught"))
  d__law_caught : ∃ fd, FunD K "_law_caught" "_law_caught" (defArgs (top 68)) (defBody (top 68)) (defScope (top 68)) [] [] (He.ga K "_law_caught") fd
  gf__law_moved : mg "_law_moved" = some (.ref (He.ga K "_law_moved"))
  d__law_moved : ∃ fd, FunD K "_law_moved" "_law_moved" (defArgs (top 69)) (defBody (top 69)) (defScope (top 69)) [] [] (He.ga K "_law_moved") fd
  gf__law_is_as_new : mg "_law_is_as_new" = some (.ref (He.ga K "_law_is_as_new"))
  d__law_is_as_new : ∃ fd, FunD K "_law_is_as_new" "_law_is_as_new" (defArgs (top 70)) (defBody (top 70)) (defScope (top 70)) [] [] (He.ga K "_law_is_as_new") fd
  gf__law_equal_right : mg "_law_equal_right" = some (.ref (He.ga K "_law_equal_right"))
  d__law_equal_right : ∃ fd, FunD K "_law_equal_right" "_law_equal_right" (defArgs (top 71)) (defBody (top 71)) (defScope (top 71)) [] [] (He.ga K "_law_equal_right") fd
  gf_law : mg "law" = some (.ref (He.ga K "law"))
  d_law : ∃ fd, FunD K "law" "law" (defArgs (top 72)) (defBody (top 72)) (defScope (top 72)) [] [] (He.ga K "law") fd
  k_PARTS : PartsAt w K mg
  sf_Speller : PySem.W.selfFirst K (He.ga K "Speller") = true
  rs_Speller : PySem.W.findIn K (.ref (He.ga K "Speller")) "__rsub__" = some none
  ss_str : PySem.W.findIn K (.type "str") "__sub__" = some none
  sr_str : PySem.W.findIn K (.type "str") "__rsub__" = some none
  sx_Speller : PySem.W.subIn K (.type "str") (.ref (He.ga K "Speller")) = some false
  ne_Speller : PySem.W.findIn K (.ref (He.ga K "Speller")) "__ne__" = some (some (.builtin "object.__ne__"))
  ob_Speller : PySem.W.subIn K (.ref (He.ga K "Speller")) (.type "object") = some true
  ne_Session : PySem.W.findIn K (.ref (He.ga K "Session")) "__ne__" = some (some (.builtin "object.__ne__"))
  ob_Session : PySem.W.subIn K (.ref (He.ga K "Session")) (.type "object") = some true
  nf_Speller : PySem.W.notFirst K (He.ga K "Session") (.ref (He.ga K "Speller")) = true
  nf_None : PySem.W.notFirst K (He.ga K "Session") (.type "NoneType") = true
  ko_Speller : PySem.W.kitOne K (.ref (He.ga K "Speller")) (.ref (He.ga K "Session")) = some false
  ko_None : PySem.W.kitOne K (.type "NoneType") (.ref (He.ga K "Session")) = some false
  xf_BadEntry : XfC K (He.ga K "BadEntry")
  xa_BadEntry : PySem.W.findIn K (.ref (He.ga K "BadEntry")) "at" = some none
  em_BadDeed : PySem.W.exmOne K (.ref (He.ga K "BadEntry")) (.ref (He.ga K "BadDeed")) = some false
  em_BadEntry : PySem.W.exmOne K (.ref (He.ga K "BadEntry")) (.ref (He.ga K "BadEntry")) = some true
  p_file : ((P.main.file : Str) == ("/claim/cut.py" : Str)) = true
  p_super : (P.main.scope.names.lookup ("super" : Str)).isSome = false
  i_BadEntry : SupI K (He.ga K "BadEntry") (He.ma K (He.ga K "BadEntry") "__init__") "BadEntry.__init__" (defArgs (inClass (top 5) 0)) (defBody (inClass (top 5) 0)) (defScope (inClass (top 5) 0))
  ox_BadEntry : OexC K (He.ga K "BadEntry")

end Mw
/-! W2: slips -/
namespace Mw
open PySem PySem.Spec PyProof.Rows L2
section
variable {P : Program} {w : World} {K : PySem.W.Frag} {mg : Str → Option Value} {base : Heap}

/-! ### texts: signs a to z, not too many -/
theorem in_az {c : Nat} (h : 97 ≤ c ∧ c ≤ 122) : c ∈ (PySem.Str.ofString "abcdefghijklmnopqrstuvwxyz").cps.toList := by
  rw [show (PySem.Str.ofString "abcdefghijklmnopqrstuvwxyz").cps.toList = [97, 98, 99, 100, 101, 102, 103, 104, 105, 106, 107, 108, 109, 110, 111, 112, 113, 114, 115, 116, 117, 118, 119, 120, 121, 122] by decide +kernel]
  simp only [List.mem_cons]
  omega
theorem walk_strL (x : Str) : Walk (Its x) x.cps.toList.length (fun _ => True) (fun i H v H' => H' = H ∧ ∃ c, x.cps.toList[i]? = some c ∧ v = .str ⟨#[c]⟩) := by
  have h := walk_str (z := x)
  rw [← Array.length_toList] at h
  exact h.mono (fun _ h => h) fun i H x H' _ _ y => by simpa using y
def Az (x : Str) : Prop := (∀ c ∈ x.cps.toList, 97 ≤ c ∧ c ≤ 122) ∧ x.length ≤ 1000
def N_is_integer : List Str := ["thing"]
theorem sc_is_integer : FnScope N_is_integer ["thing"] (defScope (top 14)) := ⟨rfl, rfl, rfl, by decide +kernel, rfl, by decide +kernel, by decide +kernel⟩
def spIsInteger : Sp := fun vs H Q _ => ∃ i : Int, vs = [.int i] ∧ Q (.bl true) H
theorem c_is_integer (T : Tx P w K mg) : Cl P w K mg base CX0 1 "is_integer" spIsInteger := by
  have S := sc_is_integer
  refine mkCl0 T.d_is_integer T.gf_is_integer S (fun _ _ _ _ _ _ us hl => match us, hl with | [_], _ => rfl) (fun vs H Q E h => ?_) (fun cdv A outer s H vs Q E hr h => ?_)
  · obtain ⟨i, rfl, _⟩ := h
    rfl
  · obtain ⟨i, rfl, k⟩ := h
    refine ⟨_, (pss_one (ps_ret (pe_and (pe_callB call_isi rfl T.n_isinstance bt_isinstance (pa_cons (pv 0) (pa_cons (pe_bltn (v := .ty "int") rfl T.n_int bt_int rfl) pa_nil))) (pe_one (pe_not (pe_callB call_isi rfl T.n_isinstance bt_isinstance (pa_cons (pv 0) (pa_cons (pe_bltn (v := .ty "bool") rfl T.n_bool bt_bool rfl) pa_nil)))))))), ?_⟩
    refine ⟨_, rfl, _, _, _, _, true, rfl, .ty _, .base (.int i), kit_ty (by decide +kernel), _, rfl, iteT ?_⟩
    refine ⟨_, rfl, _, _, _, _, false, rfl, .ty _, .base (.int i), kit_ty (by decide +kernel), _, rfl, k⟩
def N_is_text : List Str := ["thing", "sign"]
theorem sc_is_text : FnScope N_is_text ["thing"] (defScope (top 15)) := ⟨rfl, rfl, rfl, by decide +kernel, rfl, by decide +kernel, by decide +kernel⟩
def spIsText : Sp := fun vs H Q _ => ∃ x : Str, vs = [.str x] ∧ Az x ∧ ∀ H', Same H H' → Q (.bl true) H'
theorem c_is_text (T : Tx P w K mg) : Cl P w K mg base CX0 1 "is_text" spIsText := by
  have S := sc_is_text
  refine mkCl0 T.d_is_text T.gf_is_text S (fun _ _ _ _ _ _ us hl => match us, hl with | [_], _ => rfl) (fun vs H Q E h => ?_) (fun cdv A outer s H vs Q E hr h => ?_)
  · obtain ⟨i, rfl, _⟩ := h
    rfl
  · obtain ⟨x, rfl, az, k⟩ := h
    refine ⟨_, (pss_one (ps_ret (pe_and (pe_callB call_isi rfl T.n_isinstance bt_isinstance (pa_cons (pv 0) (pa_cons (pe_bltn (v := .ty "str") rfl T.n_str bt_str rfl) pa_nil))) (pe_one (pe_callB (cr_all rfl) rfl T.n_all bt_all (pa_cons (pe_lc (own := [("sign", 1)]) (g := gName 1) (tt := tYes) (by rfl) S.nd (pi_str (pv 0)) (blkOk_by (own := [("sign", 1)]) (N := N_is_text) (sc := defScope (top 15)) (by decide +kernel)) (fun _ _ _ _ _ => (pg_name (i := 1) S.nd rfl (Or.inl rfl))) (fun _ _ _ _ _ => pts_nil) (fun _ _ _ _ _ => (pe_cmpR op_in_sign (pv 1) (C8.pe_gc rfl T.k_LETTERS) rfl))) pa_nil)))))), ?_⟩
    refine ⟨_, rfl, _, _, _, _, true, rfl, .ty _, .base (.str x), kit_ty (by decide +kernel), _, rfl, iteT ?_⟩
    refine ⟨_, rfl, x, rfl, fun D hD => ?_⟩
    refine lc_map x.cps.toList (fun _ => V.bl true) (walk_strL x) (Nat.le_trans (by simpa [Str.length] using az.2) (by decide)) hD (fun _ _ => trivial) (fun i a v H1 H2 Qe ha s1 y kk => ?_) (fun H1 s1 h1 => ?_)
    · obtain ⟨rfl, c, hc, rfl⟩ := y
      obtain rfl : a = c := by simpa [ha] using hc
      refine ⟨rfl, _, rfl, a, _, rfl, rfl, ?_⟩
      rw [decide_eq_true (in_az (az.1 a (List.mem_of_getElem? ha)))]
      exact kk _ (Same.refl _)
    · refine ⟨_, x.cps.toList.map fun _ => true, rfl, SqL.of (by rw [h1, List.map_map]; rfl), ?_⟩
      rw [show (x.cps.toList.map fun _ => true).all id = true by simp]
      exact k _ s1
def N_is_word : List Str := ["thing"]
theorem sc_is_word : FnScope N_is_word ["thing"] (defScope (top 16)) := ⟨rfl, rfl, rfl, by decide +kernel, rfl, by decide +kernel, by decide +kernel⟩
def spIsWord : Sp := fun vs H Q _ => ∃ x : Str, vs = [.str x] ∧ Az x ∧ 1 ≤ x.length ∧ x.length ≤ 5 ∧ ∀ H', Same H H' → Q (.bl true) H'
theorem c_is_word (T : Tx P w K mg) : Cl P w K mg base CX0 2 "is_word" spIsWord := by
  have S := sc_is_word
  have c_is_text := @c_is_text P w K mg base T
  refine mkCl0 T.d_is_word T.gf_is_word S (fun _ _ _ _ _ _ us hl => match us, hl with | [_], _ => rfl) (fun vs H Q E h => ?_) (fun cdv A outer s H vs Q E hr h => ?_)
  · obtain ⟨i, rfl, _⟩ := h
    rfl
  · obtain ⟨x, rfl, az, h1, h2, k⟩ := h
    refine ⟨_, (pss_one (ps_ret (pe_and (pe_f c_is_text hr (by decide) rfl pass0 (pa_cons (pv 0) pa_nil)) (pe_one (pe_chain op_le op_le pe_int (pe_callB call_len_str rfl T.n_len bt_len (pa_cons (pv 0) pa_nil)) (C8.pe_gc rfl T.k_LONGEST)))))), ?_⟩
    refine ⟨_, rfl, x, rfl, az, fun H1 s1 => ⟨_, rfl, iteT ?_⟩⟩
    refine ⟨_, rfl, _, rfl, Nat.le_trans az.2 (by decide), _, _, rfl, rfl, _, rfl, ?_⟩
    rw [decide_eq_true (show (1 : Int) ≤ (x.length : Int) by omega)]
    refine iteT ⟨_, _, rfl, rfl, ?_⟩
    show Q (V.bl (decide ((x.length : Int) ≤ 5))) _
    rw [decide_eq_true (show (x.length : Int) ≤ 5 by omega)]
    exact k _ s1
def N_is_price : List Str := ["thing"]
theorem sc_is_price : FnScope N_is_price ["thing"] (defScope (top 17)) := ⟨rfl, rfl, rfl, by decide +kernel, rfl, by decide +kernel, by decide +kernel⟩
def spIsPrice : Sp := fun vs H Q _ => ∃ i : Int, vs = [.int i] ∧ 1 ≤ i ∧ i ≤ 9 ∧ Q (.bl true) H
theorem c_is_price (T : Tx P w K mg) : Cl P w K mg base CX0 2 "is_price" spIsPrice := by
  have S := sc_is_price
  have c_is_integer := @c_is_integer P w K mg base T
  refine mkCl0 T.d_is_price T.gf_is_price S (fun _ _ _ _ _ _ us hl => match us, hl with | [_], _ => rfl) (fun vs H Q E h => ?_) (fun cdv A outer s H vs Q E hr h => ?_)
  · obtain ⟨i, rfl, _⟩ := h
    rfl
  · obtain ⟨x, rfl, h1, h2, k⟩ := h
    refine ⟨_, (pss_one (ps_ret (pe_and (pe_f c_is_integer hr (by decide) rfl pass0 (pa_cons (pv 0) pa_nil)) (pe_one (pe_chain op_le op_le pe_int (pv 0) (C8.pe_gc rfl T.k_DEAREST)))))), ?_⟩
    refine ⟨_, rfl, x, rfl, _, rfl, iteT ?_⟩
    refine ⟨_, rfl, _, _, rfl, rfl, _, rfl, ?_⟩
    rw [decide_eq_true h1]
    refine iteT ⟨_, _, rfl, rfl, ?_⟩
    show Q (V.bl (decide (x ≤ 9))) _
    rw [decide_eq_true h2]
    exact k
def N_need_text : List Str := ["thing"]
theorem sc_need_text : FnScope N_need_text ["thing"] (defScope (top 18)) := ⟨rfl, rfl, rfl, by decide +kernel, rfl, by decide +kernel, by decide +kernel⟩
def spNeedText : Sp := fun vs H Q _ => ∃ x : Str, vs = [.str x] ∧ Az x ∧ ∀ H', Same H H' → Q .non H'
theorem c_need_text (T : Tx P w K mg) : Cl P w K mg base CX0 2 "need_text" spNeedText := by
  have S := sc_need_text
  have c_is_text := @c_is_text P w K mg base T
  refine mkCl0 T.d_need_text T.gf_need_text S (fun _ _ _ _ _ _ us hl => match us, hl with | [_], _ => rfl) (fun vs H Q E h => ?_) (fun cdv A outer s H vs Q E hr h => ?_)
  · obtain ⟨i, rfl, _⟩ := h
    rfl
  · obtain ⟨x, rfl, az, k⟩ := h
    refine ⟨_, (pss_one (ps_if (pt_not (pt_val (pe_f c_is_text hr (by decide) rfl pass0 (pa_cons (pv 0) pa_nil)))) pss_never pss_nil)), ?_⟩
    refine ⟨_, rfl, x, rfl, az, fun H1 s1 => ⟨_, rfl, iteF ?_⟩⟩
    exact k _ s1

/-! ### the prices of slips -/
structure Sl where
  ex : Int
  mi : Int
  wr : Int
  sw : Option Int
  deriving DecidableEq
def Pri (i : Int) : Prop := 1 ≤ i ∧ i ≤ 9
structure Sl.Ok (p : Sl) : Prop where
  ex : Pri p.ex
  mi : Pri p.mi
  wr : Pri p.wr
  sw : ∀ i, p.sw = some i → Pri i
def swV : Option Int → V
  | none => .non
  | some i => .int i
def slF (p : Sl) : List (Str × V) := [("z_extra", .int p.ex), ("z_missing", .int p.mi), ("z_wrong", .int p.wr), ("z_swapped", swV p.sw)]
theorem slF_put (p : Sl) : putF "z_swapped" (swV p.sw) (putF "z_wrong" (.int p.wr) (putF "z_missing" (.int p.mi) (putF "z_extra" (.int p.ex) []))) = slF p := by
  have a1 : ¬ ("z_extra" : Str) = "z_missing" := by decide +kernel
  have a2 : ¬ ("z_extra" : Str) = "z_wrong" := by decide +kernel
  have a3 : ¬ ("z_extra" : Str) = "z_swapped" := by decide +kernel
  have a4 : ¬ ("z_missing" : Str) = "z_wrong" := by decide +kernel
  have a5 : ¬ ("z_missing" : Str) = "z_swapped" := by decide +kernel
  have a6 : ¬ ("z_wrong" : Str) = "z_swapped" := by decide +kernel
  simp only [putF, if_neg a1, if_neg a2, if_neg a3, if_neg a4, if_neg a5, if_neg a6]
  rfl
theorem slF_ex (p : Sl) : (slF p).lookup ("z_extra" : Str) = some (.int p.ex) := look_eq
theorem slF_mi (p : Sl) : (slF p).lookup ("z_missing" : Str) = some (.int p.mi) := by
  unfold slF
  rw [look_ne (by decide +kernel), look_eq]
theorem slF_wr (p : Sl) : (slF p).lookup ("z_wrong" : Str) = some (.int p.wr) := by
  unfold slF
  rw [look_ne (by decide +kernel), look_ne (by decide +kernel), look_eq]
theorem slF_sw (p : Sl) : (slF p).lookup ("z_swapped" : Str) = some (swV p.sw) := by
  unfold slF
  rw [look_ne (by decide +kernel), look_ne (by decide +kernel), look_ne (by decide +kernel), look_eq]
def swD : Option Int → PyData
  | none => .none
  | some i => .int i
theorem eqv_sl (p q : Sl) : PyData.eqv (.tuple [.int p.ex, .int p.mi, .int p.wr, swD p.sw]) (.tuple [.int q.ex, .int q.mi, .int q.wr, swD q.sw]) = decide (p = q) := by
  obtain ⟨a, b, c, d⟩ := p
  obtain ⟨a', b', c', d'⟩ := q
  rw [Bool.eq_iff_iff]
  cases d <;> cases d' <;> simp [PyData.eqv, PyData.eqvAll, swD]
abbrev aSl (K : PySem.W.Frag) : Addr := He.ga K "Slips"
/-- at a: slips of these prices -/
def SlipsAt (K : PySem.W.Frag) (H : Hp) (a : Addr) (p : Sl) : Prop := ∃ dx, H a = some (.ins (aSl K) dx (slF p))
theorem SlipsAt.mono {H H' : Hp} {a : Addr} {p : Sl} (h : SlipsAt K H a p) (e : Same H H') : SlipsAt K H' a p := by
  obtain ⟨dx, h⟩ := h
  exact ⟨dx, e _ _ h⟩
theorem c_Slips_extra (T : Tx P w K mg) : Pr P w K mg base CX0 1 (aSl K) "extra" (getSp (aSl K) "z_extra") :=
  mkGet T.d_Slips_extra T.cl_Slips T.na_Slips_z_extra T.pr_Slips_extra ⟨rfl, rfl, rfl, by decide +kernel, rfl, by decide +kernel, by decide +kernel⟩ (fun _ _ _ _ _ _ us hl => match us, hl with | [_], _ => rfl) rfl
theorem c_Slips_missing (T : Tx P w K mg) : Pr P w K mg base CX0 1 (aSl K) "missing" (getSp (aSl K) "z_missing") :=
  mkGet T.d_Slips_missing T.cl_Slips T.na_Slips_z_missing T.pr_Slips_missing ⟨rfl, rfl, rfl, by decide +kernel, rfl, by decide +kernel, by decide +kernel⟩ (fun _ _ _ _ _ _ us hl => match us, hl with | [_], _ => rfl) rfl
theorem c_Slips_wrong (T : Tx P w K mg) : Pr P w K mg base CX0 1 (aSl K) "wrong" (getSp (aSl K) "z_wrong") :=
  mkGet T.d_Slips_wrong T.cl_Slips T.na_Slips_z_wrong T.pr_Slips_wrong ⟨rfl, rfl, rfl, by decide +kernel, rfl, by decide +kernel, by decide +kernel⟩ (fun _ _ _ _ _ _ us hl => match us, hl with | [_], _ => rfl) rfl
theorem c_Slips_swapped (T : Tx P w K mg) : Pr P w K mg base CX0 1 (aSl K) "swapped" (getSp (aSl K) "z_swapped") :=
  mkGet T.d_Slips_swapped T.cl_Slips T.na_Slips_z_swapped T.pr_Slips_swapped ⟨rfl, rfl, rfl, by decide +kernel, rfl, by decide +kernel, by decide +kernel⟩ (fun _ _ _ _ _ _ us hl => match us, hl with | [_], _ => rfl) rfl
def N_Slips_init : List Str := ["self", "extra", "missing", "wrong", "swapped"]
theorem sc_Slips_init : FnScope N_Slips_init ["self", "extra", "missing", "wrong", "swapped"] (defScope (inClass (top 19) 0)) := ⟨rfl, rfl, rfl, by decide +kernel, rfl, by decide +kernel, by decide +kernel⟩
def spSlipsInit (K : PySem.W.Frag) : Sp := fun vs H Q _ => ∃ (B M : Hp) (x dx : Addr) (p : Sl), vs = [.ref x, .int p.ex, .int p.mi, .int p.wr, swV p.sw] ∧ p.Ok ∧ Wd B (upd M x (.ins (aSl K) dx [])) H ∧
  ∀ H', Wd B (upd M x (.ins (aSl K) dx (slF p))) H' → Q .non H'
theorem f_Slips_init (T : Tx P w K mg) {fd : FuncData} (F : FunD K "__init__" "Slips.__init__" (defArgs (inClass (top 19) 0)) (defBody (inClass (top 19) 0)) (defScope (inClass (top 19) 0)) [] [("extra", .int 1), ("missing", .int 1), ("wrong", .int 1), ("swapped", .non)] (He.ma K (aSl K) "__init__") fd) :
    FnOk P w K mg base CX0 3 (He.ma K (aSl K) "__init__") fd ["self", "extra", "missing", "wrong", "swapped"] (spSlipsInit K) := by
  have S := sc_Slips_init
  have c_is_price := @c_is_price P w K mg base T
  refine F.ok S (fun vs H Q E h => ?_) (fun cdv A outer s H vs Q E hr h => ?_)
  · obtain ⟨B, M, x, dx, p, rfl, _⟩ := h
    rfl
  · obtain ⟨B, M, x, dx, p, rfl, ok, wd, k⟩ := h
    suffices hh : ∃ t, PSs (cxOf CX0 P w K mg base N_Slips_init "Slips.__init__" (defScope (inClass (top 19) 0)) (He.ma K (aSl K) "__init__") cdv A outer s H E).nox (defBody (inClass (top 19) 0)) t ∧ t { nx := fun _ H' => Q .non H', rt := Q } (L2.start N_Slips_init [.ref x, .int p.ex, .int p.mi, .int p.wr, swV p.sw]) H by
      obtain ⟨t, a, b⟩ := hh
      exact ⟨t, a.nox, b⟩
    refine ⟨_, (pss_cons (ps_if (pt_not (pt_val (pe_f c_is_price hr (by decide) rfl pass0 (pa_cons (pv 1) pa_nil)))) pss_never pss_nil)
    (pss_cons (ps_if (pt_not (pt_val (pe_f c_is_price hr (by decide) rfl pass0 (pa_cons (pv 2) pa_nil)))) pss_never pss_nil)
    (pss_cons (ps_if (pt_not (pt_val (pe_f c_is_price hr (by decide) rfl pass0 (pa_cons (pv 3) pa_nil)))) pss_never pss_nil)
    (pss_cons (ps_if (PW.pt (pw_and (pt_cmpR op_notN (pv 4) pe_non (nomark _)) (pw_and1 (pt_not (pt_val (pe_f c_is_price hr (by decide) rfl pass0 (pa_cons (pv 4) pa_nil))))))) pss_never pss_nil)
    (pss_cons (ps_fld (pv 0) (pv 1) rfl)
    (pss_cons (ps_fld (pv 0) (pv 2) rfl)
    (pss_cons (ps_fld (pv 0) (pv 3) rfl)
    (pss_one (ps_fld (pv 0) (pv 4) rfl))))))))), ?_⟩
    refine ⟨_, rfl, _, rfl, ok.ex.1, ok.ex.2, _, rfl, iteF ?_⟩
    refine ⟨_, rfl, _, rfl, ok.mi.1, ok.mi.2, _, rfl, iteF ?_⟩
    refine ⟨_, rfl, _, rfl, ok.wr.1, ok.wr.2, _, rfl, iteF ?_⟩
    have c := T.cl_Slips
    obtain ⟨ex, mi, wr, sw⟩ := p
    rcases sw with _ | i
    case' none => refine ⟨_, rfl, rfl, _, rfl, iteF (iteF ?_)⟩
    case' some => refine ⟨_, rfl, rfl, _, rfl, iteT ⟨_, rfl, _, rfl, (ok.sw i rfl).1, (ok.sw i rfl).2, _, rfl, iteF ?_⟩⟩
    all_goals
      refine ⟨_, rfl, _, rfl, fld_step wd c T.na_Slips_z_extra (by decide) fun H1 w1 => ?_⟩
      refine ⟨_, rfl, _, rfl, fld_step w1 c T.na_Slips_z_missing (Nat.le_trans (Nat.succ_le_succ (length_putF _ _ _)) (by decide)) fun H2 w2 => ?_⟩
      refine ⟨_, rfl, _, rfl, fld_step w2 c T.na_Slips_z_wrong (Nat.le_trans (Nat.succ_le_succ (Nat.le_trans (length_putF _ _ _) (Nat.succ_le_succ (length_putF _ _ _)))) (by show (_ : Nat) ≤ 1000; simp [putF])) fun H3 w3 => ?_⟩
      refine ⟨_, rfl, _, rfl, fld_step w3 c T.na_Slips_z_swapped ?_ fun H4 w4 => ?_⟩
      · exact Nat.lt_of_le_of_lt (length_putF _ _ _) (Nat.lt_of_le_of_lt (Nat.succ_le_succ (length_putF _ _ _)) (Nat.lt_of_le_of_lt (Nat.succ_le_succ (Nat.succ_le_succ (length_putF _ _ _))) (by decide)))
      · exact k _ (by rw [← slF_put]; exact w4)
/-- Slips(..), as a class that may be made -/
structure McS (P : Program) (w : World) (K : PySem.W.Frag) (mg : Str → Option Value) (base : Heap) : Prop where
  ex : ∃ (fd : FuncData), Mk K (aSl K) (He.ma K (aSl K) "__init__") ∧ FnOk P w K mg base CX0 3 (He.ma K (aSl K) "__init__") fd ["self", "extra", "missing", "wrong", "swapped"] (spSlipsInit K) ∧ mg "Slips" = some (.ref (aSl K)) ∧
    (∃ g : List Value → List Value → List Value, KBn K fd ["self", "extra", "missing", "wrong", "swapped"] 1 ["extra", "missing", "wrong", "swapped"] g (fun vs zs => vs ++ zs)) ∧ ∃ ds, Vals [.int 1, .int 1, .int 1, .non] ds ∧ Binds K fd ["self", "extra", "missing", "wrong", "swapped"] ds
theorem c_Slips (T : Tx P w K mg) : McS P w K mg base := by
  obtain ⟨fd, F⟩ := T.d_Slips___init__
  refine ⟨fd, T.mk_Slips, f_Slips_init T F, T.g_Slips, ?_, ?_⟩
  · obtain ⟨mv, h⟩ := FunD.kbinds0 (ps := ["self", "extra", "missing", "wrong", "swapped"]) F 1 ["extra", "missing", "wrong", "swapped"] [] (fun us _ ws => us ++ ws) (by simp) (fun q hq => by cases hq) (fun r1 _ r2 => r1.append r2)
      (fun D doc pm an cdv ct us mv ws h1 h2 h3 => match us, mv, ws, h1, h2, h3 with
        | [_], [], [_, _, _, _], _, _, _ => rfl)
    exact ⟨_, h⟩
  · exact FunD.binds0 (ps := ["self", "extra", "missing", "wrong", "swapped"]) F 1 (by simp) rfl (fun D doc pm an cdv ct us ks h1 h2 => match us, ks, h1, h2 with
        | [_], [_, _, _, _], _, _ => ⟨_, _, _, _, _, _, rfl, rfl, _, _, _, _, _, _, rfl, rfl, _, _, _, _, _, _, rfl, rfl, _, _, _, _, _, _, rfl, rfl, rfl⟩)
/-- what a new instance's maker is given -/
theorem slips_made {B M H : Hp} {x dx : Addr} {p : Sl} {Q : Hp → Prop} (wd : Wd B M H) (hx : H x = none) (hd : H dx = none) (ne : dx ≠ x) (ok : p.Ok) (k : ∀ B' H', Same B B' → Wd B' M H' → SlipsAt K B' x p → Q H') :
    spSlipsInit K [.ref x, .int p.ex, .int p.mi, .int p.wr, swV p.sw] (upd (upd H dx (.own x)) x (.ins (aSl K) dx [])) (fun v H2 => v = .non ∧ Q H2) E0 := by
  refine ⟨_, M, x, dx, p, rfl, ok, wd.made hx hd ne, fun H' w' => ⟨rfl, ?_⟩⟩
  have hB := wd.fb hx
  refine k _ H' ?_ (w'.frz (wd.fm hx)) ⟨dx, upd_same⟩
  exact (wd.sb hd).trans (Same.new (by rw [upd_ne (fun z => ne z.symm)]; exact hB))
section
variable {X : Cx} {j : Nat} {p pos : Pos} {kws : List Keyword} {tk : TA}
theorem pe_slipsK (c : McS X.prog X.w X.K X.mg X.base) (hr : Room j X.A) (hk : 4 ≤ j) (hg : Gl X "Slips") (hkw : PK X kws tk)
    (hall : (backToKw pos (keywordEach kws X.env)).all (·.1.isSome) = true := by rfl) (hks : (backToKw pos (keywordEach kws X.env)).filterMap (·.1) = ([("extra" : Str), "missing", "wrong", "swapped"] : List Str) := by rfl)
    (hpl : ((backTo pos (starEach [] X.env)).any (·.1) || (backToKw pos (keywordEach kws X.env)).any (·.1.isNone)) = false := by rfl) :
    PE X (.Call (.Name "Slips" p) [] kws pos) (tMakeK (aSl X.K) 0 4 (spSlipsInit X.K) (fun vs zs => vs ++ zs) E0 tNil tk) := by
  obtain ⟨fd, M, F, hm, ⟨g, b⟩, _⟩ := c.ex
  exact pe_makeK0 M F (hr.mono hk) hg hm b pass0 hkw hall hks (by decide) hpl
theorem pe_slips0 (c : McS X.prog X.w X.K X.mg X.base) (hr : Room j X.A) (hk : 4 ≤ j) (hg : Gl X "Slips") : PE X (.Call (.Name "Slips" p) [] [] pos) (tMake (aSl X.K) (spSlipsInit X.K) [.int 1, .int 1, .int 1, .non] E0 tNil) := by
  obtain ⟨fd, M, F, hm, _, ds, d, b⟩ := c.ex
  exact pe_make0 M F (hr.mono hk) hg hm b d pass0
end
/-! ### == of slips -/
def N_Slips_eq : List Str := ["self", "other", "mine"]
theorem sc_Slips_eq : FnScope N_Slips_eq ["self", "other"] (defScope (inClass (top 19) 5)) := ⟨rfl, rfl, rfl, by decide +kernel, rfl, by decide +kernel, by decide +kernel⟩
def spSlipsEq (K : PySem.W.Frag) : Sp := fun vs H Q _ => ∃ (a b : Addr) (p q : Sl), vs = [.ref a, .ref b] ∧ SlipsAt K H a p ∧ SlipsAt K H b q ∧ ∀ H', Same H H' → Q (.bl (decide (p = q))) H'
theorem c_Slips___eq__ (T : Tx P w K mg) : Mt P w K mg base CX0 1 (aSl K) "__eq__" (spSlipsEq K) := by
  have S := sc_Slips_eq
  refine mkMt0 T.d_Slips___eq__ T.cl_Slips T.me_Slips___eq__ S (fun _ _ _ _ _ _ us hl => match us, hl with | [_, _], _ => rfl) (fun vs H Q E h => ?_) (fun cdv A outer s H vs Q E hr h => ?_)
  · obtain ⟨a, b, p, q, rfl, _⟩ := h
    rfl
  · obtain ⟨a, b, p, q, rfl, ⟨da, ha⟩, ⟨db, hb⟩, k⟩ := h
    refine ⟨_, (pss_cons (ps_if (pt_not (pt_val (pe_callB call_isi rfl T.n_isinstance bt_isinstance (pa_cons (pv 1) (pa_cons (pe_glob (v := .ref (He.ga K "Slips")) rfl T.g_Slips rfl) pa_nil))))) (pss_one (ps_ret pe_bl)) pss_nil)
    (pss_cons (ps_set (i := 2) S.nd rfl (Or.inl rfl) (pe_tup (pa_cons (pe_fld (pv 0) rfl) (pa_cons (pe_fld (pv 0) rfl) (pa_cons (pe_fld (pv 0) rfl) (pa_cons (pe_fld (pv 0) rfl) pa_nil))))))
    (pss_one (ps_ret (pe_cmpR (op_eqD hr.units) (pv 2) (pe_tup (pa_cons (pe_fld (pv 1) rfl) (pa_cons (pe_fld (pv 1) rfl) (pa_cons (pe_fld (pv 1) rfl) (pa_cons (pe_fld (pv 1) rfl) pa_nil))))) (nomark _)))))), ?_⟩
    refine ⟨_, rfl, _, _, _, _, true, rfl, .own _, tyx_own T.ic_Slips hb, T.ic_Slips.me, _, rfl, iteF ?_⟩
    have c := T.cl_Slips
    refine ⟨_, rfl, a, _, da, _, _, rfl, ha, c, T.na_Slips_z_extra, slF_ex p, _, rfl, a, _, da, _, _, rfl, ha, c, T.na_Slips_z_missing, slF_mi p, _, rfl, a, _, da, _, _, rfl, ha, c, T.na_Slips_z_wrong, slF_wr p, _, rfl, a, _, da, _, _, rfl, ha, c, T.na_Slips_z_swapped, slF_sw p, sz4, fun t ht => ?_⟩
    have hb' : upd H t (.tup [.int p.ex, .int p.mi, .int p.wr, swV p.sw]) b = some (.ins (aSl K) db (slF q)) := Same.new ht _ _ hb
    refine ⟨_, rfl, _, rfl, b, _, db, _, _, rfl, hb', c, T.na_Slips_z_extra, slF_ex q, _, rfl, b, _, db, _, _, rfl, hb', c, T.na_Slips_z_missing, slF_mi q, _, rfl, b, _, db, _, _, rfl, hb', c, T.na_Slips_z_wrong, slF_wr q, _, rfl, b, _, db, _, _, rfl, hb', c, T.na_Slips_z_swapped, slF_sw q, sz4, fun u hu => ?_⟩
    have sw : ∀ (o : Option Int) (H : Hp), Dp K H (swV o) (swD o) := fun o H => by
      cases o with
      | none => exact .non
      | some i => exact .int i
    have ntu : t ≠ u := ne_of_none upd_same hu
    refine ⟨.tuple [.int p.ex, .int p.mi, .int p.wr, swD p.sw], .tuple [.int q.ex, .int q.mi, .int q.wr, swD q.sw], .tup (SqT.of (by rw [upd_ne ntu]; exact upd_same)) (.cons (.int _) (.cons (.int _) (.cons (.int _) (.cons (sw _ _) .nil)))),
      .tup (SqT.of upd_same) (.cons (.int _) (.cons (.int _) (.cons (.int _) (.cons (sw _ _) .nil)))), ?_, ?_, ?_⟩
    · obtain ⟨_, _, _, o⟩ := p
      cases o <;> rfl
    · obtain ⟨_, _, _, o⟩ := q
      cases o <;> rfl
    · rw [eqv_sl]
      exact k _ (Same.trans (Same.new ht) (Same.new hu))
end
end Mw
/-! W3: the price of a text for a target -/
namespace Mw
open PySem PySem.Spec PyProof.Rows L2
/-- the text of these codes -/
abbrev tx (l : List Nat) : Str := SX.S l
theorem tx_len (l : List Nat) : (tx l).length = l.length := SX.S_len l
theorem tx_inj {a b : List Nat} (h : tx a = tx b) : a = b := SX.S_inj h
theorem tx_V {a b : List Nat} : (V.str (tx a) = V.str (tx b)) ↔ a = b := ⟨fun h => tx_inj (V.str.inj h), fun h => by rw [h]⟩
theorem tx_nil : (PySem.Str.ofString "" : Str) = tx [] := by decide +kernel
theorem atI_back {α : Type} (l : List α) (k : Nat) (h : k < l.length) : atI l (-((k : Int) + 1)) = some (l[l.length - 1 - k]'(by omega)) := by
  unfold atI ixN
  rw [if_neg (by omega), if_pos (by omega)]
  have e : (-((k : Int) + 1) + (l.length : Int)).toNat = l.length - 1 - k := by omega
  rw [e]
  simp
/-! ### steps -/
inductive Kd where
  | ex | mi | sa | wr | sw
  deriving DecidableEq
def Kd.nm : Kd → Str
  | .ex => "extra"
  | .mi => "missing"
  | .sa => "same"
  | .wr => "wrong"
  | .sw => "swapped"
def Kd.less : Kd → Nat
  | .ex => 0
  | .mi => 1
  | .sa => 1
  | .wr => 1
  | .sw => 2
def Kd.fewer : Kd → Nat
  | .ex => 1
  | .mi => 0
  | .sa => 1
  | .wr => 1
  | .sw => 2
def Kd.cost (p : Sl) : Kd → Int
  | .ex => p.ex
  | .mi => p.mi
  | .sa => 0
  | .wr => p.wr
  | .sw => p.sw.getD 0
def k1 (x : List Nat) : List Kd := if x = [] then [] else [.ex]
def k2 (t : List Nat) : List Kd := if t = [] then [] else [.mi]
def k3 (t x : List Nat) : List Kd := if x = [] ∨ t = [] then [] else [if x.getLast? = t.getLast? then .sa else .wr]
def swOk (t x : List Nat) : Prop := 1 < x.length ∧ 1 < t.length ∧ x[x.length - 1]? = t[t.length - 2]? ∧ x[x.length - 2]? = t[t.length - 1]? ∧ x[x.length - 1]? ≠ x[x.length - 2]?
instance (t x : List Nat) : Decidable (swOk t x) := by unfold swOk; infer_instance
def k4 (s : Bool) (t x : List Nat) : List Kd := if s = true ∧ swOk t x then [.sw] else []
def lastK (s : Bool) (t x : List Nat) : List Kd := k1 x ++ k2 t ++ k3 t x ++ k4 s t x
def StepAt (H : Hp) (v : V) (k : Kd) : Prop := ∃ a b tl, v = .ref a ∧ H a = some (.tup [.ref b, .int (k.less : Nat), .int (k.fewer : Nat)]) ∧ H b = some (.tup (.str k.nm :: tl))
theorem StepAt.mono {H H' : Hp} {v : V} {k : Kd} (h : StepAt H v k) (e : Same H H') : StepAt H' v k := by
  obtain ⟨a, b, tl, h1, h2, h3⟩ := h
  exact ⟨a, b, tl, h1, e _ _ h2, e _ _ h3⟩
/-- the list at l holds the steps ks; it is new since H -/
def FoundAt (H H' : Hp) (l : Addr) (ks : List Kd) : Prop := H l = none ∧ Same H H' ∧ ∃ refs, H' l = some (.lst refs) ∧ Paired (StepAt H') refs ks
theorem paired_mono {H H' : Hp} (e : Same H H') {refs : List V} {ks : List Kd} (p : Paired (StepAt H) refs ks) : Paired (StepAt H') refs ks := L2.Paired.mapP p fun _ _ h => h.mono e
theorem Paired.snoc {α β : Type} {F : α → β → Prop} {l : List α} {m : List β} {a : α} {b : β} (p : Paired F l m) (h : F a b) : Paired F (l ++ [a]) (m ++ [b]) := by
  induction p with
  | nil => exact .cons h .nil
  | cons r _ ih => exact .cons r ih
/-- a further one -/
theorem FoundAt.app {H H' : Hp} {l a b : Addr} {ks : List Kd} (k : Kd) {tl : List V} (f : FoundAt H H' l ks) (hb : H' b = none) (ha : (upd H' b (.tup (.str k.nm :: tl))) a = none) :
    ∃ refs, (upd (upd H' b (.tup (.str k.nm :: tl))) a (.tup [.ref b, .int (k.less : Nat), .int (k.fewer : Nat)])) l = some (.lst refs) ∧ refs.length = ks.length ∧
      FoundAt H (upd (upd (upd H' b (.tup (.str k.nm :: tl))) a (.tup [.ref b, .int (k.less : Nat), .int (k.fewer : Nat)])) l (.lst (refs ++ [.ref a]))) l (ks ++ [k]) := by
  obtain ⟨h0, s, refs, hl, p⟩ := f
  have s1 : Same H' (upd (upd H' b (.tup (.str k.nm :: tl))) a (.tup [.ref b, .int (k.less : Nat), .int (k.fewer : Nat)])) := (Same.new hb).trans (Same.new ha)
  have hl1 := s1 _ _ hl
  have nal : a ≠ l := fun z => by
    rw [z] at ha
    rw [Same.new hb _ _ hl] at ha
    cases ha
  have nbl : b ≠ l := fun z => by
    rw [z, hl] at hb
    cases hb
  have nab : b ≠ a := ne_of_none upd_same ha
  refine ⟨refs, hl1, p.length, h0, fun c o e => ?_, refs ++ [.ref a], upd_same, ?_⟩
  · rw [upd_ne (ne_of_none e h0)]
    exact s1 _ _ (s _ _ e)
  · have key : ∀ {v : V} {k : Kd}, StepAt (upd (upd H' b (.tup (.str k.nm :: tl))) a (.tup [.ref b, .int (k.less : Nat), .int (k.fewer : Nat)])) v k → True := fun _ => trivial
    refine Paired.snoc (L2.Paired.mapP p fun v k' h => ?_) ⟨a, b, tl, rfl, by rw [upd_ne nal, upd_same], by rw [upd_ne nbl, upd_ne nab, upd_same]⟩
    obtain ⟨a', b', tl', e1, e2, e3⟩ := h.mono s1
    have n1 : a' ≠ l := fun z => by
      rw [z, hl1] at e2
      cases e2
    have n2 : b' ≠ l := fun z => by
      rw [z, hl1] at e3
      cases e3
    exact ⟨a', b', tl', e1, by rw [upd_ne n1]; exact e2, by rw [upd_ne n2]; exact e3⟩
section
variable {P : Program} {w : World} {K : PySem.W.Frag} {mg : Str → Option Value} {base : Heap}
def N_last_steps : List Str := ["slips", "target", "text", "found", "is_same"]
theorem sc_last_steps : FnScope N_last_steps ["slips", "target", "text"] (defScope (top 20)) := ⟨rfl, rfl, rfl, by decide +kernel, rfl, by decide +kernel, by decide +kernel⟩
def spLastSteps (K : PySem.W.Frag) : Sp := fun vs H Q _ => ∃ (s : Addr) (p : Sl) (t x : List Nat), vs = [.ref s, .str (tx t), .str (tx x)] ∧ SlipsAt K H s p ∧ t.length ≤ 1000 ∧ x.length ≤ 1000 ∧
  ∀ l H', FoundAt H H' l (lastK p.sw.isSome t x) → Q (.ref l) H'
theorem c_last_steps (T : Tx P w K mg) : Cl P w K mg base CX0 3 "last_steps" (spLastSteps K) := by
  have S := sc_last_steps
  have c_Slips_swapped := @c_Slips_swapped P w K mg base T
  refine mkCl0 T.d_last_steps T.gf_last_steps S (fun _ _ _ _ _ _ us hl => match us, hl with | [_, _, _], _ => rfl) (fun vs H Q E h => ?_) (fun cdv A outer s H vs Q E hr h => ?_)
  · obtain ⟨s, p, t, x, rfl, _⟩ := h
    rfl
  · obtain ⟨sa, p, t, x, rfl, sl, ht, hx, k⟩ := h
    refine ⟨_, (pss_cons (ps_set (i := 3) S.nd rfl (Or.inl rfl) (pe_lst pa_nil))
    (C8.pss_cut (ps_if (pt_cmpR op_ne (pv 2) pe_str (nomark _)) (pss_one (ps_expr (pe_bm PySem.F.plainAttrs_list PySem.F.slot_list_append PySem.F.type_list_append mt_append (pv 3) (pa_cons (pe_tup (pa_cons (pe_tup (pa_cons pe_str (pa_cons (pe_ix ix_str (pv 2) (pe_un un_neg pe_int) (fun _ _ => rfl)) pa_nil))) (pa_cons pe_int (pa_cons pe_int pa_nil)))) pa_nil)))) pss_nil)
    (C8.pss_cut (ps_if (pt_cmpR op_ne (pv 1) pe_str (nomark _)) (pss_one (ps_expr (pe_bm PySem.F.plainAttrs_list PySem.F.slot_list_append PySem.F.type_list_append mt_append (pv 3) (pa_cons (pe_tup (pa_cons (pe_tup (pa_cons pe_str (pa_cons (pe_ix ix_str (pv 1) (pe_un un_neg pe_int) (fun _ _ => rfl)) pa_nil))) (pa_cons pe_int (pa_cons pe_int pa_nil)))) pa_nil)))) pss_nil)
    (C8.pss_cut (ps_if (PW.pt (pw_and (pt_cmpR op_ne (pv 2) pe_str (nomark _)) (pw_and1 (pt_cmpR op_ne (pv 1) pe_str (nomark _))))) (pss_cons (ps_set (i := 4) S.nd rfl (Or.inl rfl) (pe_cmpR op_eq (pe_ix ix_str (pv 2) (pe_un un_neg pe_int) (fun _ _ => rfl)) (pe_ix ix_str (pv 1) (pe_un un_neg pe_int) (fun _ _ => rfl)) (nomark _)))
    (pss_one (ps_expr (pe_bm PySem.F.plainAttrs_list PySem.F.slot_list_append PySem.F.type_list_append mt_append (pv 3) (pa_cons (pe_tup (pa_cons (pe_ifExp (pt_val (pv 4)) (pe_tup (pa_cons pe_str (pa_cons (pe_ix ix_str (pv 1) (pe_un un_neg pe_int) (fun _ _ => rfl)) pa_nil))) (pe_tup (pa_cons pe_str (pa_cons (pe_ix ix_str (pv 1) (pe_un un_neg pe_int) (fun _ _ => rfl)) (pa_cons (pe_ix ix_str (pv 2) (pe_un un_neg pe_int) (fun _ _ => rfl)) pa_nil))))) (pa_cons pe_int (pa_cons pe_int pa_nil)))) pa_nil))))) pss_nil)
    (C8.pss_cut (ps_if (PW.pt (pw_and (pt_cmpR op_notN (pe_p c_Slips_swapped hr (by decide) pass0 (pv 0)) pe_non (nomark _)) (pw_and (pt_cmpR op_gt (pe_callB call_len_str rfl T.n_len bt_len (pa_cons (pv 2) pa_nil)) pe_int (nomark _)) (pw_and1 (pt_cmpR op_gt (pe_callB call_len_str rfl T.n_len bt_len (pa_cons (pv 1) pa_nil)) pe_int (nomark _)))))) (pss_one (ps_if (PW.pt (pw_and (pt_cmpR op_eq (pe_ix ix_str (pv 2) (pe_un un_neg pe_int) (fun _ _ => rfl)) (pe_ix ix_str (pv 1) (pe_un un_neg pe_int) (fun _ _ => rfl)) (nomark _)) (pw_and (pt_cmpR op_eq (pe_ix ix_str (pv 2) (pe_un un_neg pe_int) (fun _ _ => rfl)) (pe_ix ix_str (pv 1) (pe_un un_neg pe_int) (fun _ _ => rfl)) (nomark _)) (pw_and1 (pt_cmpR op_ne (pe_ix ix_str (pv 2) (pe_un un_neg pe_int) (fun _ _ => rfl)) (pe_ix ix_str (pv 2) (pe_un un_neg pe_int) (fun _ _ => rfl)) (nomark _)))))) (pss_one (ps_expr (pe_bm PySem.F.plainAttrs_list PySem.F.slot_list_append PySem.F.type_list_append mt_append (pv 3) (pa_cons (pe_tup (pa_cons (pe_tup (pa_cons pe_str (pa_cons (pe_ix ix_str (pv 1) (pe_un un_neg pe_int) (fun _ _ => rfl)) (pa_cons (pe_ix ix_str (pv 1) (pe_un un_neg pe_int) (fun _ _ => rfl)) pa_nil)))) (pa_cons pe_int (pa_cons pe_int pa_nil)))) pa_nil)))) pss_nil)) pss_nil)
    (pss_one (ps_ret (pv 3)))))))), ?_⟩
    refine ⟨sz0, fun l hl => ?_⟩
    have f0 : FoundAt H (upd H l (.lst [])) l [] := ⟨hl, Same.new hl, [], upd_same, .nil⟩
    have st : ∀ (v : Option V), ((L2.start N_last_steps [.ref sa, .str (tx t), .str (tx x)]).set 3 (some (.ref l))).set 4 v = [some (.ref sa), some (.str (tx t)), some (.str (tx x)), some (.ref l), v] := fun _ => rfl
    have lx : (tx x).length ≤ sizeLine := by rw [tx_len]; exact Nat.le_trans hx (by decide)
    have lt : (tx t).length ≤ sizeLine := by rw [tx_len]; exact Nat.le_trans ht (by decide)
    refine ⟨fun σ' H' => σ' = [some (.ref sa), some (.str (tx t)), some (.str (tx x)), some (.ref l), none] ∧ FoundAt H H' l (k1 x), ?_, ?_⟩
    · refine ⟨_, rfl, rfl, _, rfl, ?_⟩
      rw [tx_nil]
      refine ite2 (fun q => ?_) (fun q => ?_)
      · have xn : x ≠ [] := by simpa [tx_V] using q
        have h0 : 0 < x.length := List.length_pos_iff.mpr xn
        refine ⟨_, rfl, .inl ⟨rfl, _, .inl (.inl upd_same)⟩, ?_⟩
        refine ⟨_, rfl, _, rfl, _, -1, _, rfl, rfl, lx, atI_back x 0 h0, sz2, fun b hb => ⟨sz3, fun a ha => ?_⟩⟩
        obtain ⟨refs, e1, e2, f1⟩ := f0.app .ex hb ha
        refine ⟨l, refs, _, rfl, rfl, e1, by rw [e2]; decide, rfl, ?_⟩
        rw [show k1 x = [] ++ [.ex] by simp [k1, xn]]
        exact f1
      · have xn : x = [] := by simpa [tx_V] using q
        exact ⟨rfl, by rw [show k1 x = [] by simp [k1, xn]]; exact f0⟩
    rintro σ1 H1 ⟨rfl, f1⟩
    refine ⟨fun σ' H' => σ' = [some (.ref sa), some (.str (tx t)), some (.str (tx x)), some (.ref l), none] ∧ FoundAt H H' l (k1 x ++ k2 t), ?_, ?_⟩
    · refine ⟨_, rfl, rfl, _, rfl, ?_⟩
      rw [tx_nil]
      refine ite2 (fun q => ?_) (fun q => ?_)
      · have tn : t ≠ [] := by simpa [tx_V] using q
        have h0 : 0 < t.length := List.length_pos_iff.mpr tn
        obtain ⟨_, _, rs, hrs, _⟩ := id f1
        refine ⟨_, rfl, .inl ⟨rfl, _, .inl (.inl hrs)⟩, ?_⟩
        refine ⟨_, rfl, _, rfl, _, -1, _, rfl, rfl, lt, atI_back t 0 h0, sz2, fun b hb => ⟨sz3, fun a ha => ?_⟩⟩
        obtain ⟨refs, e1, e2, f2⟩ := f1.app .mi hb ha
        refine ⟨l, refs, _, rfl, rfl, e1, small_line (by rw [e2]; unfold k1; split <;> decide), rfl, ?_⟩
        rw [show k2 t = [.mi] by simp [k2, tn]]
        exact f2
      · have tn : t = [] := by simpa [tx_V] using q
        exact ⟨rfl, by rw [show k2 t = [] by simp [k2, tn], List.append_nil]; exact f1⟩
    clear f1 f0 hl
    rintro σ2 H2 ⟨rfl, f2⟩
    refine ⟨fun σ' H' => (∃ v, σ' = [some (.ref sa), some (.str (tx t)), some (.str (tx x)), some (.ref l), v]) ∧ FoundAt H H' l (k1 x ++ k2 t ++ k3 t x), ?_, ?_⟩
    · have len2 : (k1 x ++ k2 t).length ≤ 100000 := by
        rw [List.length_append]
        unfold k1 k2
        split <;> split <;> decide
      obtain ⟨_, _, rs, hrs, _⟩ := id f2
      have no : (x = [] ∨ t = []) → (∃ v, [some (V.ref sa), some (.str (tx t)), some (.str (tx x)), some (.ref l), none] = [some (.ref sa), some (.str (tx t)), some (.str (tx x)), some (.ref l), v]) ∧ FoundAt H H2 l (k1 x ++ k2 t ++ k3 t x) := fun o =>
        ⟨⟨_, rfl⟩, by rw [show k3 t x = [] from if_pos o, List.append_nil]; exact f2⟩
      refine ⟨_, rfl, rfl, _, rfl, ?_⟩
      rw [tx_nil]
      refine ite2 (fun q => ?_) (fun q => iteF (show _ ∧ _ from no (.inl (by simpa [tx_V] using q))))
      have xn : x ≠ [] := by simpa [tx_V] using q
      refine ⟨_, rfl, rfl, _, rfl, ?_⟩
      refine ite2 (fun q => ?_) (fun q => no (.inr (by simpa [tx_V] using q)))
      have tn : t ≠ [] := by simpa [tx_V] using q
      have hx0 : 0 < x.length := List.length_pos_iff.mpr xn
      have ht0 : 0 < t.length := List.length_pos_iff.mpr tn
      refine ⟨_, rfl, _, rfl, _, -1, _, rfl, rfl, lx, atI_back x 0 hx0, _, rfl, _, rfl, _, -1, _, rfl, rfl, lt, atI_back t 0 ht0, rfl, ?_⟩
      have ex : x.getLast? = some (x[x.length - 1 - 0]'(by omega)) := by simp [List.getLast?_eq_getElem?, hx0]
      have et : t.getLast? = some (t[t.length - 1 - 0]'(by omega)) := by simp [List.getLast?_eq_getElem?, ht0]
      have ek : k3 t x = [if x[x.length - 1 - 0]'(by omega) = t[t.length - 1 - 0]'(by omega) then .sa else .wr] := by
        unfold k3
        rw [if_neg (by simp [xn, tn]), ex, et]
        simp only [Option.some.injEq]
      have ed : decide (V.str (tx [x[x.length - 1 - 0]'(by omega)]) = V.str (tx [t[t.length - 1 - 0]'(by omega)])) = decide (x[x.length - 1 - 0]'(by omega) = t[t.length - 1 - 0]'(by omega)) := decide_eq_decide.mpr (by rw [tx_V]; simp)
      refine ⟨_, rfl, .inl ⟨rfl, _, .inl (.inl hrs)⟩, ?_⟩
      refine ⟨_, rfl, _, rfl, ?_⟩
      rw [ed]
      refine ite2 (fun q => ?_) (fun q => ?_)
      · refine ⟨_, rfl, _, rfl, _, -1, _, rfl, rfl, lt, atI_back t 0 ht0, sz2, fun b hb => ⟨sz3, fun a ha => ?_⟩⟩
        obtain ⟨refs, e1, e2, f3⟩ := f2.app .sa hb ha
        refine ⟨l, refs, _, rfl, rfl, e1, small_line (by rw [e2]; exact len2), ⟨_, rfl⟩, ?_⟩
        rw [ek, if_pos (of_decide_eq_true q)]
        exact f3
      · refine ⟨_, rfl, _, rfl, _, -1, _, rfl, rfl, lt, atI_back t 0 ht0, _, rfl, _, rfl, _, -1, _, rfl, rfl, lx, atI_back x 0 hx0, sz3, fun b hb => ⟨sz3, fun a ha => ?_⟩⟩
        obtain ⟨refs, e1, e2, f3⟩ := f2.app .wr hb ha
        refine ⟨l, refs, _, rfl, rfl, e1, small_line (by rw [e2]; exact len2), ⟨_, rfl⟩, ?_⟩
        rw [ek, if_neg (fun z => q (decide_eq_true z))]
        exact f3
    clear f2
    rintro σ3 H3 ⟨⟨v, rfl⟩, f3⟩
    have len3 : (k1 x ++ k2 t ++ k3 t x).length ≤ 100000 := by
      rw [List.length_append, List.length_append]
      unfold k1 k2 k3
      split <;> split <;> split <;> simp
    refine ⟨fun σ' H' => σ' = [some (.ref sa), some (.str (tx t)), some (.str (tx x)), some (.ref l), v] ∧ FoundAt H H' l (lastK p.sw.isSome t x), ?_, ?_⟩
    · obtain ⟨_, s3, rs, hrs, _⟩ := id f3
      obtain ⟨dx, hs⟩ := sl.mono s3
      have no : ¬ (p.sw.isSome = true ∧ swOk t x) → [some (V.ref sa), some (.str (tx t)), some (.str (tx x)), some (.ref l), v] = [some (.ref sa), some (.str (tx t)), some (.str (tx x)), some (.ref l), v] ∧ FoundAt H H3 l (lastK p.sw.isSome t x) := fun o =>
        ⟨rfl, by unfold lastK; rw [show k4 p.sw.isSome t x = [] from if_neg o, List.append_nil]; exact f3⟩
      refine ⟨_, rfl, sa, dx, _, rfl, hs, sa, dx, _, _, rfl, hs, slF_sw p, rfl, _, rfl, ?_⟩
      cases esw : p.sw with
      | none =>
        rw [esw] at no
        refine iteF ?_
        refine iteF ?_
        exact no (by simp)
      | some sv =>
        rw [esw] at no
        refine iteT ⟨_, rfl, _, rfl, lx, _, _, rfl, rfl, _, rfl, ?_⟩
        rw [tx_len]
        refine ite2 (fun q1 => ?_) (fun q1 => iteF (no (fun o => q1 (decide_eq_true (by have := o.2.1; omega)))))
        refine ⟨_, rfl, _, rfl, lt, _, _, rfl, rfl, _, rfl, ?_⟩
        rw [tx_len]
        refine ite2 (fun q2 => ?_) (fun q2 => no (fun o => q2 (decide_eq_true (by have := o.2.2.1; omega))))
        have hx1 : 1 < x.length := by have := of_decide_eq_true q1; omega
        have ht1 : 1 < t.length := by have := of_decide_eq_true q2; omega
        have a1 := atI_back x 0 (by omega)
        have a2 := atI_back x 1 hx1
        have b1 := atI_back t 0 (by omega)
        have b2 := atI_back t 1 ht1
        refine ⟨_, rfl, _, rfl, _, -1, _, rfl, rfl, lx, a1, _, rfl, _, rfl, _, -2, _, rfl, rfl, lt, b2, rfl, _, rfl, ?_⟩
        have d1 : decide (V.str (tx [x[x.length - 1 - 0]]) = V.str (tx [t[t.length - 1 - 1]])) = decide (x[x.length - 1]? = t[t.length - 2]?) := decide_eq_decide.mpr (by
          rw [tx_V, show t.length - 2 = t.length - 1 - 1 by omega, List.getElem?_eq_getElem (by omega), List.getElem?_eq_getElem (by omega)]
          simp)
        have d2 : decide (V.str (tx [x[x.length - 1 - 1]]) = V.str (tx [t[t.length - 1 - 0]])) = decide (x[x.length - 2]? = t[t.length - 1]?) := decide_eq_decide.mpr (by
          rw [tx_V, show x.length - 2 = x.length - 1 - 1 by omega, List.getElem?_eq_getElem (by omega), List.getElem?_eq_getElem (by omega)]
          simp)
        have d3 : decide (V.str (tx [x[x.length - 1 - 0]]) = V.str (tx [x[x.length - 1 - 1]])) = decide (x[x.length - 1]? = x[x.length - 2]?) := decide_eq_decide.mpr (by
          rw [tx_V, show x.length - 2 = x.length - 1 - 1 by omega, List.getElem?_eq_getElem (by omega), List.getElem?_eq_getElem (by omega)]
          simp)
        rw [d1]
        refine ite2 (fun q3 => ?_) (fun q3 => no (fun o => q3 (decide_eq_true o.2.2.2.1)))
        refine ⟨_, rfl, _, rfl, _, -2, _, rfl, rfl, lx, a2, _, rfl, _, rfl, _, -1, _, rfl, rfl, lt, b1, rfl, _, rfl, ?_⟩
        rw [d2]
        refine ite2 (fun q4 => ?_) (fun q4 => no (fun o => q4 (decide_eq_true o.2.2.2.2.1)))
        refine ⟨_, rfl, _, rfl, _, -1, _, rfl, rfl, lx, a1, _, rfl, _, rfl, _, -2, _, rfl, rfl, lx, a2, rfl, _, rfl, ?_⟩
        rw [d3]
        refine ite2 (fun q5 => ?_) (fun q5 => no (fun o => q5 (by simp [o.2.2.2.2.2])))
        have ok : swOk t x := ⟨hx1, ht1, of_decide_eq_true q3, of_decide_eq_true q4, by simpa using q5⟩
        refine ⟨_, rfl, .inl ⟨rfl, _, .inl (.inl hrs)⟩, ?_⟩
        refine ⟨_, rfl, _, rfl, _, -2, _, rfl, rfl, lt, b2, _, rfl, _, rfl, _, -1, _, rfl, rfl, lt, b1, sz3, fun b hb => ⟨sz3, fun a ha => ?_⟩⟩
        obtain ⟨refs, e1, e2, f4⟩ := f3.app .sw hb ha
        refine ⟨l, refs, _, rfl, rfl, e1, small_line (by rw [e2]; exact len3), rfl, ?_⟩
        unfold lastK
        rw [show k4 (some sv).isSome t x = [.sw] from if_pos ⟨rfl, ok⟩]
        exact f4
    · rintro σ4 H4 ⟨rfl, f4⟩
      exact ⟨_, rfl, k _ _ f4⟩
end
end Mw
/-! W4: the price, plainly: the least sum of steps from one cell to another -/
namespace Mw
open PySem PySem.Spec PyProof.Rows L2
/-- one step on: i letters of the target g, j of the text x are done -/
inductive Stp (p : Sl) (g x : List Nat) : Nat → Nat → Nat → Nat → Int → Prop where
  | ex {i j : Nat} : j < x.length → Stp p g x i j i (j + 1) p.ex
  | mi {i j : Nat} : i < g.length → Stp p g x i j (i + 1) j p.mi
  | dg {i j : Nat} : i < g.length → j < x.length → Stp p g x i j (i + 1) (j + 1) (if g[i]? = x[j]? then 0 else p.wr)
  | sw {i j : Nat} (s : Int) : p.sw = some s → i + 1 < g.length → j + 1 < x.length → g[i]? = x[j + 1]? → g[i + 1]? = x[j]? → g[i]? ≠ g[i + 1]? → Stp p g x i j (i + 2) (j + 2) s
inductive Way (p : Sl) (g x : List Nat) : Nat → Nat → Nat → Nat → Int → Prop where
  | nil {i j : Nat} : Way p g x i j i j 0
  | cons {i j i1 j1 i2 j2 : Nat} {c d : Int} : Stp p g x i j i1 j1 c → Way p g x i1 j1 i2 j2 d → Way p g x i j i2 j2 (c + d)
structure Least (p : Sl) (g x : List Nat) (i j i' j' : Nat) (c : Int) : Prop where
  way : Way p g x i j i' j' c
  le : ∀ d, Way p g x i j i' j' d → c ≤ d
section
variable {p : Sl} {g x : List Nat}
theorem Stp.up {i j i1 j1 : Nat} {c : Int} (s : Stp p g x i j i1 j1 c) : i ≤ i1 ∧ j ≤ j1 ∧ i + j < i1 + j1 := by
  cases s <;> omega
theorem Way.up {i j i1 j1 : Nat} {c : Int} (s : Way p g x i j i1 j1 c) : i ≤ i1 ∧ j ≤ j1 ∧ (i = i1 → j = j1 → c = 0) := by
  induction s with
  | nil => exact ⟨Nat.le_refl _, Nat.le_refl _, fun _ _ => rfl⟩
  | cons s _ ih =>
    have := s.up
    exact ⟨by omega, by omega, fun _ _ => by omega⟩
theorem Way.snoc {i j i1 j1 i2 j2 : Nat} {c d : Int} (w : Way p g x i j i1 j1 c) (s : Stp p g x i1 j1 i2 j2 d) : Way p g x i j i2 j2 (c + d) := by
  induction w with
  | nil =>
    have h := Way.cons s .nil
    rwa [Int.add_zero, ← Int.zero_add d] at h
  | cons s' _ ih =>
    rw [Int.add_assoc]
    exact .cons s' (ih s)
theorem Way.last {i j i2 j2 : Nat} {c : Int} (w : Way p g x i j i2 j2 c) : (i = i2 ∧ j = j2) ∨ ∃ i1 j1 d e, Way p g x i j i1 j1 d ∧ Stp p g x i1 j1 i2 j2 e ∧ c = d + e := by
  induction w with
  | nil => exact .inl ⟨rfl, rfl⟩
  | @cons i j i1 j1 i2 j2 c d s w ih =>
    rcases ih with ⟨rfl, rfl⟩ | ⟨a, b, d', e, w', s', rfl⟩
    · refine .inr ⟨i, j, 0, c, .nil, s, ?_⟩
      rw [(w.up).2.2 rfl rfl]
      omega
    · exact .inr ⟨a, b, c + d', e, .cons s w', s', by omega⟩
theorem Way.first {i j i2 j2 : Nat} {c : Int} (w : Way p g x i j i2 j2 c) : (i = i2 ∧ j = j2 ∧ c = 0) ∨ ∃ i1 j1 d e, Stp p g x i j i1 j1 d ∧ Way p g x i1 j1 i2 j2 e ∧ c = d + e := by
  cases w with
  | nil => exact .inl ⟨rfl, rfl, rfl⟩
  | cons s w => exact .inr ⟨_, _, _, _, s, w, rfl⟩
theorem Least.unique {i j i' j' : Nat} {c d : Int} (a : Least p g x i j i' j' c) (b : Least p g x i j i' j' d) : c = d := Int.le_antisymm (a.le _ b.way) (b.le _ a.way)
theorem Least.self {i j : Nat} : Least p g x i j i j 0 := ⟨.nil, fun d w => by rw [(w.up).2.2 rfl rfl]; exact Int.le_refl _⟩
/-- a list of sums that holds ways alone and one as good as each way: its least -/
theorem Least.of {i j i' j' : Nat} {S : List Int} {m : Int} (sound : ∀ v ∈ S, Way p g x i j i' j' v) (full : ∀ d, Way p g x i j i' j' d → ∃ v ∈ S, v ≤ d) (hm : m ∈ S) (hl : ∀ y ∈ S, m ≤ y) : Least p g x i j i' j' m :=
  ⟨sound m hm, fun d w => let ⟨v, hv, h⟩ := full d w; Int.le_trans (hl v hv) h⟩
theorem min_of : ∀ (S : List Int), S ≠ [] → ∃ m ∈ S, ∀ y ∈ S, m ≤ y
  | [a], _ => ⟨a, by simp, by simp⟩
  | a :: b :: S, _ => by
    obtain ⟨m, h1, h2⟩ := min_of (b :: S) (by simp)
    by_cases q : a ≤ m
    · exact ⟨a, by simp, fun y hy => by
        rcases List.mem_cons.mp hy with rfl | hy
        · exact Int.le_refl _
        · exact Int.le_trans q (h2 y hy)⟩
    · exact ⟨m, List.mem_cons_of_mem _ h1, fun y hy => by
        rcases List.mem_cons.mp hy with rfl | hy
        · omega
        · exact h2 y hy⟩
/-! ### the steps into a cell, as last_steps tells them -/
theorem take_last {l : List Nat} {m : Nat} (h : m ≤ l.length) (k : Nat) (hk : k < m) : (l.take m)[(l.take m).length - 1 - k]? = l[m - 1 - k]? := by
  rw [List.length_take, Nat.min_eq_left h, List.getElem?_take, if_pos (by omega)]
theorem swOk_iff {m j : Nat} (hm : m ≤ g.length) (hj : j ≤ x.length) : swOk (g.take m) (x.take j) ↔ (1 < j ∧ 1 < m ∧ x[j - 1]? = g[m - 2]? ∧ x[j - 2]? = g[m - 1]? ∧ x[j - 1]? ≠ x[j - 2]?) := by
  unfold swOk
  have l1 : (g.take m).length = m := by rw [List.length_take]; omega
  have l2 : (x.take j).length = j := by rw [List.length_take]; omega
  rw [l1, l2]
  constructor
  · rintro ⟨h1, h2, h3, h4, h5⟩
    rw [List.getElem?_take, List.getElem?_take, if_pos (by omega), if_pos (by omega)] at h3 h4 h5
    exact ⟨h1, h2, h3, h4, h5⟩
  · rintro ⟨h1, h2, h3, h4, h5⟩
    refine ⟨h1, h2, ?_⟩
    rw [List.getElem?_take, List.getElem?_take, List.getElem?_take, List.getElem?_take, if_pos (by omega), if_pos (by omega), if_pos (by omega), if_pos (by omega)]
    exact ⟨h3, h4, h5⟩
theorem take_nil_iff {l : List Nat} {m : Nat} (h : m ≤ l.length) : l.take m = [] ↔ m = 0 := by
  rw [List.take_eq_nil_iff]
  constructor
  · rintro (h' | h')
    · exact h'
    · rw [h'] at h
      simpa using h
  · exact .inl
theorem getLast_take {l : List Nat} {m : Nat} (h : m ≤ l.length) (hm : 0 < m) : (l.take m).getLast? = l[m - 1]? := by
  rw [List.getLast?_eq_getElem?, List.length_take, Nat.min_eq_left h, List.getElem?_take, if_pos (by omega)]
theorem last_sound {m j : Nat} (hm : m ≤ g.length) (hj : j ≤ x.length) {k : Kd} (hk : k ∈ lastK p.sw.isSome (g.take m) (x.take j)) : k.less ≤ m ∧ k.fewer ≤ j ∧ Stp p g x (m - k.less) (j - k.fewer) m j (k.cost p) := by
  unfold lastK at hk
  simp only [List.mem_append] at hk
  rcases hk with ((hk | hk) | hk) | hk
  · unfold k1 at hk
    simp only [take_nil_iff hj] at hk
    split at hk
    · simp at hk
    · rename_i h
      obtain rfl : k = .ex := by simpa using hk
      refine ⟨Nat.zero_le _, Nat.pos_of_ne_zero h, ?_⟩
      obtain ⟨j, rfl⟩ := Nat.exists_eq_succ_of_ne_zero h
      exact Stp.ex (j := j) (by omega)
  · unfold k2 at hk
    simp only [take_nil_iff hm] at hk
    split at hk
    · simp at hk
    · rename_i h
      obtain rfl : k = .mi := by simpa using hk
      refine ⟨Nat.pos_of_ne_zero h, Nat.zero_le _, ?_⟩
      obtain ⟨m, rfl⟩ := Nat.exists_eq_succ_of_ne_zero h
      exact Stp.mi (i := m) (by omega)
  · unfold k3 at hk
    simp only [take_nil_iff hj, take_nil_iff hm] at hk
    split at hk
    · simp at hk
    · rename_i h
      have h1 : 0 < j := by omega
      have h2 : 0 < m := by omega
      rw [getLast_take hj h1, getLast_take hm h2] at hk
      have st := Stp.dg (p := p) (g := g) (x := x) (i := m - 1) (j := j - 1) (by omega) (by omega)
      rw [show m - 1 + 1 = m by omega, show j - 1 + 1 = j by omega] at st
      by_cases q : x[j - 1]? = g[m - 1]?
      · rw [if_pos q] at hk
        obtain rfl : k = .sa := by simpa using hk
        rw [if_pos q.symm] at st
        exact ⟨h2, h1, st⟩
      · rw [if_neg q] at hk
        obtain rfl : k = .wr := by simpa using hk
        rw [if_neg (fun z => q z.symm)] at st
        exact ⟨h2, h1, st⟩
  · unfold k4 at hk
    simp only [swOk_iff hm hj] at hk
    split at hk
    · rename_i h
      obtain ⟨hs, h1, h2, h3, h4, h5⟩ := h
      obtain rfl : k = .sw := by simpa using hk
      obtain ⟨s, es⟩ := Option.isSome_iff_exists.mp hs
      refine ⟨h2, h1, ?_⟩
      have st := Stp.sw (p := p) (g := g) (x := x) (i := m - 2) (j := j - 2) s es (by omega) (by omega) (by rw [show j - 2 + 1 = j - 1 by omega]; exact h3.symm) (by rw [show m - 2 + 1 = m - 1 by omega]; exact h4.symm) (by rw [show m - 2 + 1 = m - 1 by omega, ← h3, ← h4]; exact h5)
      rw [show m - 2 + 2 = m by omega, show j - 2 + 2 = j by omega] at st
      show Stp p g x (m - 2) (j - 2) m j (p.sw.getD 0)
      rw [es]
      exact st
    · simp at hk
theorem last_full {m j : Nat} (hm : m ≤ g.length) (hj : j ≤ x.length) {i1 j1 : Nat} {c : Int} (s : Stp p g x i1 j1 m j c) : ∃ k ∈ lastK p.sw.isSome (g.take m) (x.take j), i1 = m - k.less ∧ j1 = j - k.fewer ∧ c = k.cost p := by
  unfold lastK
  simp only [List.mem_append]
  cases s with
  | ex h => exact ⟨.ex, .inl (.inl (.inl (by unfold k1; rw [if_neg (fun z => by have := (take_nil_iff hj).mp z; omega)]; simp))), rfl, rfl, rfl⟩
  | mi h => exact ⟨.mi, .inl (.inl (.inr (by unfold k2; rw [if_neg (fun z => by have := (take_nil_iff hm).mp z; omega)]; simp))), rfl, rfl, rfl⟩
  | dg h1 h2 =>
    by_cases q : x[j1]? = g[i1]?
    · refine ⟨.sa, .inl (.inr ?_), rfl, rfl, by rw [if_pos q.symm]; rfl⟩
      unfold k3
      rw [if_neg (fun z => by rw [take_nil_iff hj, take_nil_iff hm] at z; omega), getLast_take hj (by omega), getLast_take hm (by omega), if_pos (by simpa using q)]
      simp
    · refine ⟨.wr, .inl (.inr ?_), rfl, rfl, by rw [if_neg (fun z => q z.symm)]; rfl⟩
      unfold k3
      rw [if_neg (fun z => by rw [take_nil_iff hj, take_nil_iff hm] at z; omega), getLast_take hj (by omega), getLast_take hm (by omega), if_neg (by simpa using q)]
      simp
  | sw s es h1 h2 h3 h4 h5 =>
    refine ⟨.sw, .inr ?_, rfl, rfl, by show c = p.sw.getD 0; rw [es]; rfl⟩
    unfold k4
    have n : x[j1 + 1]? ≠ x[j1]? := by
      rw [← h3, ← h4]
      exact h5
    rw [if_pos ⟨by rw [es]; rfl, (swOk_iff hm hj).mpr ⟨by omega, by omega, h3.symm, h4.symm, n⟩⟩]
    simp
/-! ### the least sum as a function -/
theorem least_ex (p : Sl) (g x : List Nat) : ∀ (n m j : Nat), m + j ≤ n → m ≤ g.length → j ≤ x.length → ∃ c, Least p g x 0 0 m j c := by
  intro n
  induction n with
  | zero =>
    intro m j h _ _
    obtain rfl : m = 0 := by omega
    obtain rfl : j = 0 := by omega
    exact ⟨0, .self⟩
  | succ n ih =>
    intro m j h hm hj
    by_cases z : m = 0 ∧ j = 0
    · obtain ⟨rfl, rfl⟩ := z
      exact ⟨0, .self⟩
    · classical
      have pre : ∀ k ∈ lastK p.sw.isSome (g.take m) (x.take j), ∃ c, Least p g x 0 0 (m - k.less) (j - k.fewer) c := fun k hk => by
        obtain ⟨h1, h2, s⟩ := last_sound hm hj hk
        have := s.up
        exact ih _ _ (by omega) (by omega) (by omega)
      let f : Kd → Int := fun k => (if h : ∃ c, Least p g x 0 0 (m - k.less) (j - k.fewer) c then h.choose else 0) + k.cost p
      have ne : (lastK p.sw.isSome (g.take m) (x.take j)).map f ≠ [] := by
        intro e
        have e' := List.map_eq_nil_iff.mp e
        by_cases q : j = 0
        · have s := Stp.mi (p := p) (g := g) (x := x) (i := m - 1) (j := j) (by omega)
          rw [show m - 1 + 1 = m by omega] at s
          obtain ⟨k, hk, _⟩ := last_full hm hj s
          rw [e'] at hk
          cases hk
        · have s := Stp.ex (p := p) (g := g) (x := x) (i := m) (j := j - 1) (by omega)
          rw [show j - 1 + 1 = j by omega] at s
          obtain ⟨k, hk, _⟩ := last_full hm hj s
          rw [e'] at hk
          cases hk
      obtain ⟨v, hv, hl⟩ := min_of _ ne
      refine ⟨v, Least.of (fun v hv => ?_) (fun d w => ?_) hv hl⟩
      · obtain ⟨k, hk, rfl⟩ := List.mem_map.mp hv
        obtain ⟨_, _, s⟩ := last_sound hm hj hk
        have q := pre k hk
        show Way p g x 0 0 m j ((if h : ∃ c, Least p g x 0 0 (m - k.less) (j - k.fewer) c then h.choose else 0) + k.cost p)
        rw [dif_pos q]
        exact q.choose_spec.way.snoc s
      · rcases w.last with ⟨rfl, rfl⟩ | ⟨i1, j1, d', e, w', s, rfl⟩
        · exact absurd ⟨rfl, rfl⟩ z
        · obtain ⟨k, hk, rfl, rfl, rfl⟩ := last_full hm hj s
          have q := pre k hk
          refine ⟨f k, List.mem_map.mpr ⟨k, hk, rfl⟩, ?_⟩
          show (if h : ∃ c, Least p g x 0 0 (m - k.less) (j - k.fewer) c then h.choose else 0) + k.cost p ≤ _
          rw [dif_pos q]
          exact Int.add_le_add_right (q.choose_spec.le _ w') _
open Classical in
/-- the least sum from the start to the cell m, j -/
noncomputable def cel (p : Sl) (g x : List Nat) (m j : Nat) : Int := if h : ∃ c, Least p g x 0 0 m j c then h.choose else 0
/-- the price of the text x for the target g -/
noncomputable def dist (p : Sl) (g x : List Nat) : Int := cel p g x g.length x.length
theorem cel_of {m j : Nat} {c : Int} (h : Least p g x 0 0 m j c) : cel p g x m j = c := by
  have q : ∃ c, Least p g x 0 0 m j c := ⟨c, h⟩
  unfold cel
  rw [dif_pos q]
  exact q.choose_spec.unique h
theorem cel_is {m j : Nat} (hm : m ≤ g.length) (hj : j ≤ x.length) : Least p g x 0 0 m j (cel p g x m j) := by
  obtain ⟨c, h⟩ := least_ex p g x _ m j (Nat.le_refl _) hm hj
  rw [cel_of h]
  exact h
theorem cel_zero : cel p g x 0 0 = 0 := cel_of .self
/-- the sums that price_lines compares at a cell -/
noncomputable def sums (p : Sl) (g x : List Nat) (m j : Nat) : List Int := (lastK p.sw.isSome (g.take m) (x.take j)).map fun k => cel p g x (m - k.less) (j - k.fewer) + k.cost p
theorem sums_nil {m j : Nat} (hm : m ≤ g.length) (hj : j ≤ x.length) (h : sums p g x m j = []) : cel p g x m j = 0 := by
  have e' := List.map_eq_nil_iff.mp h
  have z1 : j = 0 := Classical.byContradiction fun q => by
    have s := Stp.ex (p := p) (g := g) (x := x) (i := m) (j := j - 1) (by omega)
    rw [show j - 1 + 1 = j by omega] at s
    obtain ⟨k, hk, _⟩ := last_full hm hj s
    rw [e'] at hk
    cases hk
  have z2 : m = 0 := Classical.byContradiction fun q => by
    have s := Stp.mi (p := p) (g := g) (x := x) (i := m - 1) (j := j) (by omega)
    rw [show m - 1 + 1 = m by omega] at s
    obtain ⟨k, hk, _⟩ := last_full hm hj s
    rw [e'] at hk
    cases hk
  rw [z1, z2]
  exact cel_zero
theorem sums_min {m j : Nat} (hm : m ≤ g.length) (hj : j ≤ x.length) {v : Int} (hv : v ∈ sums p g x m j) (hl : ∀ y ∈ sums p g x m j, v ≤ y) : cel p g x m j = v := by
  refine cel_of (Least.of (S := sums p g x m j) (fun v hv => ?_) (fun d w => ?_) hv hl)
  · obtain ⟨k, hk, rfl⟩ := List.mem_map.mp hv
    obtain ⟨_, _, s⟩ := last_sound hm hj hk
    exact (cel_is (by omega) (by omega)).way.snoc s
  · rcases w.last with ⟨rfl, rfl⟩ | ⟨i1, j1, d', e, w', s, rfl⟩
    · have e : lastK p.sw.isSome (g.take 0) (x.take 0) = [] := by
        unfold lastK k1 k2 k3 k4 swOk
        simp
      unfold sums at hv
      rw [e] at hv
      cases hv
    · obtain ⟨k, hk, rfl, rfl, rfl⟩ := last_full hm hj s
      exact ⟨_, List.mem_map.mpr ⟨k, hk, rfl⟩, Int.add_le_add_right ((cel_is (by omega) (by omega)).le _ w') _⟩
/-! ### from a cell to the end, as the law's table has it -/
/-- what the law's table holds: the least sums from its cells to the end; rest is what a cell compares -/
noncomputable def bak (p : Sl) (g x : List Nat) (i j : Nat) : Int :=
  open Classical in if h : ∃ c, Least p g x i j g.length x.length c then h.choose else 0
theorem bak_of {i j : Nat} {c : Int} (h : Least p g x i j g.length x.length c) : bak p g x i j = c := by
  have q : ∃ c, Least p g x i j g.length x.length c := ⟨c, h⟩
  unfold bak
  rw [dif_pos q]
  exact q.choose_spec.unique h
def b0 (g x : List Nat) (i j : Nat) : List Int := if i = g.length ∧ j = x.length then [0] else []
noncomputable def b1 (p : Sl) (g x : List Nat) (i j : Nat) : List Int := if j < x.length then [p.ex + bak p g x i (j + 1)] else []
noncomputable def b2 (p : Sl) (g x : List Nat) (i j : Nat) : List Int := if i < g.length then [p.mi + bak p g x (i + 1) j] else []
noncomputable def b3 (p : Sl) (g x : List Nat) (i j : Nat) : List Int := if i < g.length ∧ j < x.length then [(if g[i]? = x[j]? then 0 else p.wr) + bak p g x (i + 1) (j + 1)] else []
def bSw (p : Sl) (g x : List Nat) (i j : Nat) : Prop := i + 1 < g.length ∧ j + 1 < x.length ∧ g[i]? = x[j + 1]? ∧ g[i + 1]? = x[j]? ∧ g[i]? ≠ g[i + 1]?
instance (p : Sl) (g x : List Nat) (i j : Nat) : Decidable (bSw p g x i j) := by unfold bSw; infer_instance
noncomputable def b4 (p : Sl) (g x : List Nat) (i j : Nat) : List Int := match p.sw with
  | none => []
  | some s => if bSw p g x i j then [s + bak p g x (i + 2) (j + 2)] else []
noncomputable def rest (p : Sl) (g x : List Nat) (i j : Nat) : List Int := b0 g x i j ++ b1 p g x i j ++ b2 p g x i j ++ b3 p g x i j ++ b4 p g x i j
theorem mem_rest {i j : Nat} {v : Int} : v ∈ rest p g x i j ↔ (i = g.length ∧ j = x.length ∧ v = 0) ∨ ∃ i1 j1 c, Stp p g x i j i1 j1 c ∧ v = c + bak p g x i1 j1 := by
  unfold rest
  simp only [List.mem_append]
  constructor
  · rintro ((((h | h) | h) | h) | h)
    · unfold b0 at h
      split at h
      · rename_i q
        exact .inl ⟨q.1, q.2, by simpa using h⟩
      · cases h
    · unfold b1 at h
      split at h
      · rename_i q
        exact .inr ⟨_, _, _, .ex q, by simpa using h⟩
      · cases h
    · unfold b2 at h
      split at h
      · rename_i q
        exact .inr ⟨_, _, _, .mi q, by simpa using h⟩
      · cases h
    · unfold b3 at h
      split at h
      · rename_i q
        exact .inr ⟨_, _, _, .dg q.1 q.2, List.mem_singleton.mp h⟩
      · cases h
    · unfold b4 at h
      split at h
      · cases h
      · rename_i s es
        split at h
        · rename_i q
          exact .inr ⟨_, _, _, .sw s es q.1 q.2.1 q.2.2.1 q.2.2.2.1 q.2.2.2.2, List.mem_singleton.mp h⟩
        · cases h
  · rintro (⟨h1, h2, rfl⟩ | ⟨i1, j1, c, s, rfl⟩)
    · exact .inl (.inl (.inl (.inl (by unfold b0; rw [if_pos ⟨h1, h2⟩]; simp))))
    · cases s with
      | ex h => exact .inl (.inl (.inl (.inr (by unfold b1; rw [if_pos h]; simp))))
      | mi h => exact .inl (.inl (.inr (by unfold b2; rw [if_pos h]; simp)))
      | dg h1 h2 => exact .inl (.inr (by unfold b3; rw [if_pos ⟨h1, h2⟩]; exact List.mem_singleton.mpr rfl))
      | sw s es h1 h2 h3 h4 h5 =>
        refine .inr ?_
        unfold b4
        rw [es]
        show _ ∈ (if bSw p g x i j then _ else _)
        rw [if_pos (show bSw p g x i j from ⟨h1, h2, h3, h4, h5⟩)]
        exact List.mem_singleton.mpr rfl
theorem Stp.in {i j i1 j1 : Nat} {c : Int} (s : Stp p g x i j i1 j1 c) (hi : i ≤ g.length) (hj : j ≤ x.length) : i1 ≤ g.length ∧ j1 ≤ x.length := by
  cases s <;> omega
theorem bak_ex (p : Sl) (g x : List Nat) : ∀ (n i j : Nat), (g.length - i) + (x.length - j) ≤ n → i ≤ g.length → j ≤ x.length → Least p g x i j g.length x.length (bak p g x i j) ∧ rest p g x i j ≠ [] ∧
    ∀ v ∈ rest p g x i j, (∀ y ∈ rest p g x i j, v ≤ y) → bak p g x i j = v := by
  intro n
  induction n with
  | zero =>
    intro i j h hi hj
    obtain rfl : i = g.length := by omega
    obtain rfl : j = x.length := by omega
    have e : bak p g x g.length x.length = 0 := bak_of .self
    have r : ∀ v, v ∈ rest p g x g.length x.length ↔ v = 0 := fun v => by
      rw [mem_rest]
      constructor
      · rintro (⟨_, _, h⟩ | ⟨i1, j1, c, s, _⟩)
        · exact h
        · have := s.up
          have := s.in hi hj
          omega
      · exact fun h => .inl ⟨rfl, rfl, h⟩
    rw [e]
    refine ⟨.self, ?_, fun v hv _ => ((r v).mp hv).symm⟩
    intro z
    have := (r 0).mpr rfl
    rw [z] at this
    cases this
  | succ n ih =>
    intro i j h hi hj
    have nx : ∀ {i1 j1 : Nat} {c : Int}, Stp p g x i j i1 j1 c → Least p g x i1 j1 g.length x.length (bak p g x i1 j1) := fun s => by
      have := s.in hi hj
      have := s.up
      exact (ih _ _ (by omega) (by omega) (by omega)).1
    have sound : ∀ v ∈ rest p g x i j, Way p g x i j g.length x.length v := fun v hv => by
      rcases mem_rest.mp hv with ⟨rfl, rfl, rfl⟩ | ⟨i1, j1, c, s, rfl⟩
      · exact .nil
      · exact .cons s (nx s).way
    have full : ∀ d, Way p g x i j g.length x.length d → ∃ v ∈ rest p g x i j, v ≤ d := fun d w => by
      rcases w.first with ⟨h1, h2, rfl⟩ | ⟨i1, j1, d, e, s, w', rfl⟩
      · exact ⟨0, mem_rest.mpr (.inl ⟨h1, h2, rfl⟩), Int.le_refl _⟩
      · exact ⟨_, mem_rest.mpr (.inr ⟨_, _, _, s, rfl⟩), Int.add_le_add_left ((nx s).le _ w') _⟩
    have ne : rest p g x i j ≠ [] := by
      intro z
      have no : ∀ v, ¬ v ∈ rest p g x i j := fun v hv => by rw [z] at hv; cases hv
      by_cases q : i < g.length
      · exact no _ (mem_rest.mpr (.inr ⟨_, _, _, .mi q, rfl⟩))
      · by_cases q2 : j < x.length
        · exact no _ (mem_rest.mpr (.inr ⟨_, _, _, .ex q2, rfl⟩))
        · exact no 0 (mem_rest.mpr (.inl ⟨by omega, by omega, rfl⟩))
    have all : ∀ v ∈ rest p g x i j, (∀ y ∈ rest p g x i j, v ≤ y) → Least p g x i j g.length x.length v := fun v hv hl => Least.of sound full hv hl
    obtain ⟨m, hm, hl⟩ := min_of _ ne
    have e := bak_of (all m hm hl)
    refine ⟨by rw [e]; exact all m hm hl, ne, fun v hv hl => bak_of (all v hv hl)⟩
theorem rest_ne {i j : Nat} (hi : i ≤ g.length) (hj : j ≤ x.length) : rest p g x i j ≠ [] := (bak_ex p g x _ i j (Nat.le_refl _) hi hj).2.1
theorem rest_min {i j : Nat} (hi : i ≤ g.length) (hj : j ≤ x.length) {v : Int} (hv : v ∈ rest p g x i j) (hl : ∀ y ∈ rest p g x i j, v ≤ y) : bak p g x i j = v := (bak_ex p g x _ i j (Nat.le_refl _) hi hj).2.2 v hv hl
/-- both tables end in the same -/
theorem bak_dist : bak p g x 0 0 = dist p g x := (bak_ex p g x _ 0 0 (Nat.le_refl _) (Nat.zero_le _) (Nat.zero_le _)).1.unique (cel_is (Nat.le_refl _) (Nat.le_refl _))
end
end Mw
/-! W5: the price, walked -/
namespace Mw
open PySem PySem.Spec PyProof.Rows L2
section
variable {P : Program} {w : World} {K : PySem.W.Frag} {mg : Str → Option Value} {base : Heap}
/-- nothing is known to change -/
theorem Wd.none (H : Hp) : Wd H (fun _ => .none) H := ⟨Same.refl _, fun _ _ e => (by cases e), fun _ _ _ => rfl⟩
theorem cut_to (l : List Nat) (m : Nat) : cutS (tx l) .none (some (m : Int)) = tx (l.take m) := by
  rw [C8.cutS_slice, SX.slice_to (by omega)]
  rfl
def N_step_price : List Str := ["slips", "step"]
theorem sc_step_price : FnScope N_step_price ["slips", "step"] (defScope (top 21)) := ⟨rfl, rfl, rfl, by decide +kernel, rfl, by decide +kernel, by decide +kernel⟩
def spStepPrice (K : PySem.W.Frag) : Sp := fun vs H Q _ => ∃ (s b : Addr) (p : Sl) (k : Kd) (tl : List V), vs = [.ref s, .ref b] ∧ SlipsAt K H s p ∧ H b = some (.tup (.str k.nm :: tl)) ∧ (k = .sw → p.sw.isSome = true) ∧ Q (.int (k.cost p)) H
theorem c_step_price (T : Tx P w K mg) : Cl P w K mg base CX0 3 "step_price" (spStepPrice K) := by
  have S := sc_step_price
  have c_Slips_swapped := @c_Slips_swapped P w K mg base T
  have c_Slips_extra := @c_Slips_extra P w K mg base T
  have c_Slips_wrong := @c_Slips_wrong P w K mg base T
  have c_Slips_missing := @c_Slips_missing P w K mg base T
  refine mkCl0 T.d_step_price T.gf_step_price S (fun _ _ _ _ _ _ us hl => match us, hl with | [_, _], _ => rfl) (fun vs H Q E h => ?_) (fun cdv A outer s H vs Q E hr h => ?_)
  · obtain ⟨s, b, p, k, tl, rfl, _⟩ := h
    rfl
  · obtain ⟨sa, b, p, k, tl, rfl, ⟨dx, hs⟩, hb, hsw, kk⟩ := h
    refine ⟨_, (pss_cons (ps_if (pt_cmpR op_eq (pe_ix ix_tup (pv 1) pe_int (fun _ _ => rfl)) pe_str (nomark _)) (pss_one (ps_ret pe_int)) pss_nil)
    (pss_cons (ps_if (pt_cmpR op_eq (pe_ix ix_tup (pv 1) pe_int (fun _ _ => rfl)) pe_str (nomark _)) (pss_one (ps_ret (pe_p c_Slips_wrong hr (by decide) pass0 (pv 0)))) pss_nil)
    (pss_cons (ps_if (pt_cmpR op_eq (pe_ix ix_tup (pv 1) pe_int (fun _ _ => rfl)) pe_str (nomark _)) (pss_one (ps_ret (pe_p c_Slips_extra hr (by decide) pass0 (pv 0)))) pss_nil)
    (pss_one (ps_ret (pe_ifExp (pt_cmpR op_eq (pe_ix ix_tup (pv 1) pe_int (fun _ _ => rfl)) pe_str (nomark _)) (pe_p c_Slips_missing hr (by decide) pass0 (pv 0)) (pe_p c_Slips_swapped hr (by decide) pass0 (pv 0)))))))), ?_⟩
    have at0 : atI (V.str k.nm :: tl) 0 = some (.str k.nm) := atI_nat (j := 0) rfl
    have d1 : decide (V.str k.nm = V.str "same") = decide (k = .sa) := by cases k <;> decide +kernel
    have d2 : decide (V.str k.nm = V.str "wrong") = decide (k = .wr) := by cases k <;> decide +kernel
    have d3 : decide (V.str k.nm = V.str "extra") = decide (k = .ex) := by cases k <;> decide +kernel
    have d4 : decide (V.str k.nm = V.str "missing") = decide (k = .mi) := by cases k <;> decide +kernel
    refine ⟨_, rfl, b, _, _, _, rfl, rfl, SqT.of hb, at0, rfl, _, rfl, ?_⟩
    rw [d1]
    refine ite2 (fun q => ?_) (fun q1 => ?_)
    · obtain rfl := of_decide_eq_true q
      exact kk
    refine ⟨_, rfl, b, _, _, _, rfl, rfl, SqT.of hb, at0, rfl, _, rfl, ?_⟩
    rw [d2]
    refine ite2 (fun q => ?_) (fun q2 => ?_)
    · obtain rfl := of_decide_eq_true q
      exact ⟨_, rfl, sa, dx, _, rfl, hs, sa, dx, _, _, rfl, hs, slF_wr p, kk⟩
    refine ⟨_, rfl, b, _, _, _, rfl, rfl, SqT.of hb, at0, rfl, _, rfl, ?_⟩
    rw [d3]
    refine ite2 (fun q => ?_) (fun q3 => ?_)
    · obtain rfl := of_decide_eq_true q
      exact ⟨_, rfl, sa, dx, _, rfl, hs, sa, dx, _, _, rfl, hs, slF_ex p, kk⟩
    refine ⟨_, rfl, b, _, _, _, rfl, rfl, SqT.of hb, at0, rfl, _, rfl, ?_⟩
    rw [d4]
    refine ite2 (fun q => ?_) (fun q4 => ?_)
    · obtain rfl := of_decide_eq_true q
      exact ⟨_, rfl, sa, dx, _, rfl, hs, sa, dx, _, _, rfl, hs, slF_mi p, kk⟩
    have ek : k = .sw := by
      cases k with
      | sa => exact absurd rfl q1
      | wr => exact absurd rfl q2
      | ex => exact absurd rfl q3
      | mi => exact absurd rfl q4
      | sw => rfl
    subst ek
    obtain ⟨i, hi⟩ := Option.isSome_iff_exists.mp (hsw rfl)
    refine ⟨_, rfl, sa, dx, _, rfl, hs, sa, dx, _, _, rfl, hs, slF_sw p, ?_⟩
    have kk' : Q (V.int (p.sw.getD 0)) H := kk
    rw [hi] at kk' ⊢
    exact kk'
theorem paired_at {α β : Type} {F : α → β → Prop} {l : List α} {m : List β} (p : Paired F l m) {i : Nat} {a : α} (h : l[i]? = some a) : ∃ b, m[i]? = some b ∧ F a b := by
  induction p generalizing i with
  | nil => simp at h
  | cons r _ ih =>
    cases i with
    | zero => exact ⟨_, rfl, by simpa using (by simpa using h : _ = a) ▸ r⟩
    | succ i => exact ih (by simpa using h)
theorem upd_eta {H : Hp} {a : Addr} {o : HO} (h : H a = some o) : upd H a o = H := by
  funext b
  by_cases q : b = a
  · rw [q, upd_same, h]
  · rw [upd_ne q]
theorem lastK_len (s : Bool) (t x : List Nat) : (lastK s t x).length ≤ 4 := by
  have h1 : (k1 x).length ≤ 1 := by unfold k1; split <;> simp
  have h2 : (k2 t).length ≤ 1 := by unfold k2; split <;> simp
  have h3 : (k3 t x).length ≤ 1 := by unfold k3; split <;> simp
  have h4 : (k4 s t x).length ≤ 1 := by unfold k4; split <;> simp
  unfold lastK
  rw [List.length_append, List.length_append, List.length_append]
  omega
def N_price_lines : List Str := ["slips", "target", "text", "lines", "typed", "line", "meant", "some", "step", "less", "fewer", "ahead"]
theorem sc_price_lines : FnScope N_price_lines ["slips", "target", "text"] (defScope (top 22)) := ⟨rfl, rfl, rfl, by decide +kernel, rfl, by decide +kernel, by decide +kernel⟩
/-- the row of typed letters j: the cells below m -/
noncomputable def rowV (p : Sl) (g x : List Nat) (j m : Nat) : List V := (List.range m).map fun i => .int (cel p g x i j)
theorem rowV_at {p : Sl} {g x : List Nat} {j m i : Nat} (h : i < m) : (rowV p g x j m)[i]? = some (.int (cel p g x i j)) := by
  unfold rowV
  rw [List.getElem?_map, List.getElem?_range h]
  rfl
theorem rowV_succ {p : Sl} {g x : List Nat} {j m : Nat} : rowV p g x j (m + 1) = rowV p g x j m ++ [.int (cel p g x m j)] := by
  unfold rowV
  rw [List.range_succ, List.map_append]
  rfl
theorem dp_ints {K : PySem.W.Frag} {H : Hp} : ∀ ns : List Int, DpAll K H (ns.map V.int) (ns.map PyData.int)
  | [] => .nil
  | n :: r => .cons (.int n) (dp_ints r)
theorem eqv_ints_nil (ns : List Int) : PyData.eqv (.list (ns.map PyData.int)) (.list []) = decide (ns = []) := by
  cases ns <;> simp [PyData.eqv, PyData.eqvAll]
theorem sw_of_last {s : Bool} {t x : List Nat} {k : Kd} (h : k ∈ lastK s t x) (e : k = .sw) : s = true := by
  subst e
  unfold lastK k1 k2 k3 k4 at h
  simp only [List.mem_append] at h
  rcases h with ((h | h) | h) | h
  · split at h <;> simp at h
  · split at h <;> simp at h
  · split at h
    · simp at h
    · split at h <;> simp at h
  · split at h
    · rename_i q
      exact q.1
    · simp at h
def spPriceLines (K : PySem.W.Frag) : Sp := fun vs H Q _ => ∃ (s : Addr) (p : Sl) (g x : List Nat), vs = [.ref s, .str (tx g), .str (tx x)] ∧ SlipsAt K H s p ∧ g.length ≤ 1000 ∧ x.length ≤ 1000 ∧
  ∀ (l r : Addr) (ls : List V) H', Same H H' → H' l = some (.lst (ls ++ [.ref r])) → H' r = some (.lst (rowV p g x x.length (g.length + 1))) → Q (.ref l) H'
theorem c_price_lines (T : Tx P w K mg) : Cl P w K mg base CX0 4 "price_lines" (spPriceLines K) := by
  have S := sc_price_lines
  have c_last_steps := @c_last_steps P w K mg base T
  have c_step_price := @c_step_price P w K mg base T
  refine mkCl0 T.d_price_lines T.gf_price_lines S (fun _ _ _ _ _ _ us hl => match us, hl with | [_, _, _], _ => rfl) (fun vs H Q E h => ?_) (fun cdv A outer s H vs Q E hr h => ?_)
  · obtain ⟨s, p, g, x, rfl, _⟩ := h
    rfl
  · obtain ⟨sa, p, g, x, rfl, sl, hg, hx, kk⟩ := h
    refine ⟨_, (pss_cons (ps_set (i := 3) S.nd rfl (Or.inl rfl) (pe_lst pa_nil))
    (pss_cons (ps_for PassesOwn.never rfl (pi_range1 (by rfl) T.n_range (pa_cons (pe_op op_add (pe_callB call_len_str rfl T.n_len bt_len (pa_cons (pv 2) pa_nil)) pe_int) pa_nil)) (pg_name (i := 4) S.nd rfl (Or.inl rfl))
    (pss_cons (ps_set (i := 5) S.nd rfl (Or.inl rfl) (pe_lst pa_nil))
    (pss_cons (ps_for PassesOwn.never rfl (pi_range1 (by rfl) T.n_range (pa_cons (pe_op op_add (pe_callB call_len_str rfl T.n_len bt_len (pa_cons (pv 1) pa_nil)) pe_int) pa_nil)) (pg_name (i := 6) S.nd rfl (Or.inl rfl))
    (pss_cons (ps_set (i := 7) S.nd rfl (Or.inl rfl) (pe_lst pa_nil))
    (pss_cons (ps_for PassesOwn.never rfl (pi_list (pe_f c_last_steps hr (by decide) rfl pass0 (pa_cons (pv 0) (pa_cons (pe_slice sl_str (pv 1) po_none (po_some (pv 6))) (pa_cons (pe_slice sl_str (pv 2) po_none (po_some (pv 4))) pa_nil))))) (pg_tup rfl (pgs_cons (pg_name (i := 8) S.nd rfl (Or.inl rfl)) (pgs_cons (pg_name (i := 9) S.nd rfl (Or.inl rfl)) (pgs_cons (pg_name (i := 10) S.nd rfl (Or.inl rfl)) pgs_nil))))
    (pss_cons (ps_set (i := 11) S.nd rfl (Or.inl rfl) (pe_ifExp (pt_cmpR op_eq (pv 10) pe_int (nomark _)) (pe_ix ix_list (pv 5) (pe_op op_sub (pv 6) (pv 9)) (fun _ _ => rfl)) (pe_ix ix_list (pe_ix ix_list (pv 3) (pe_op op_sub (pv 4) (pv 10)) (fun _ _ => rfl)) (pe_op op_sub (pv 6) (pv 9)) (fun _ _ => rfl))))
    (pss_one (ps_expr (pe_bm PySem.F.plainAttrs_list PySem.F.slot_list_append PySem.F.type_list_append mt_append (pv 7) (pa_cons (pe_op op_add (pv 11) (pe_f c_step_price hr (by decide) rfl pass0 (pa_cons (pv 0) (pa_cons (pv 8) pa_nil)))) pa_nil))))))
    (pss_one (ps_expr (pe_bm PySem.F.plainAttrs_list PySem.F.slot_list_append PySem.F.type_list_append mt_append (pv 5) (pa_cons (pe_ifExp (pt_cmpR (op_neD hr.units) (pv 7) (pe_lst pa_nil) (nomark _)) (pe_callB (cr_min rfl) rfl T.n_min bt_min (pa_cons (pv 7) pa_nil)) pe_int) pa_nil)))))))
    (pss_one (ps_expr (pe_bm PySem.F.plainAttrs_list PySem.F.slot_list_append PySem.F.type_list_append mt_append (pv 3) (pa_cons (pv 5) pa_nil)))))))
    (pss_one (ps_ret (pv 3))))), ?_⟩
    have lx : (tx x).length ≤ sizeLine := by rw [tx_len]; exact Nat.le_trans hx (by decide)
    have lt : (tx g).length ≤ sizeLine := by rw [tx_len]; exact Nat.le_trans hg (by decide)
    refine ⟨sz0, fun l hl => ?_⟩
    refine ⟨_, rfl, _, rfl, lx, _, _, rfl, rfl, _, rfl, by rw [tx_len]; omega, by rw [tx_len]; omega, ?_⟩
    rw [tx_len, show ((x.length : Int) + 1).toNat = x.length + 1 by omega]
    refine for_it walk_range (fun j σ H' => ∃ (B M : Hp) (rows : List V) (b4 b5 b6 b7 b8 b9 b10 b11 : Option V), σ = [some (.ref sa), some (.str (tx g)), some (.str (tx x)), some (.ref l), b4, b5, b6, b7, b8, b9, b10, b11] ∧ Same H B ∧ Wd B M H' ∧
        M l = some (.lst rows) ∧ rows.length = j ∧ ∀ i, i < j → ∃ r, rows[i]? = some (.ref r) ∧ B r = some (.lst (rowV p g x i (g.length + 1))))
      ⟨H, _, [], _, _, _, _, _, _, _, _, rfl, Same.refl _, (Wd.none H).newM hl, upd_same, rfl, fun i hi => absurd hi (Nat.not_lt_zero _)⟩ (fun _ _ _ _ _ => trivial) (fun j _ _ _ H1 hj pv y => ?_) (fun σ H1 pv => ?_)
    · obtain ⟨B, M, rows, b4, b5, b6, b7, b8, b9, b10, b11, rfl, sB, wd, hrows, rl, rr⟩ := pv
      obtain ⟨rfl, rfl⟩ := y
      refine ⟨sz0, fun ln hln => ?_⟩
      refine ⟨_, rfl, _, rfl, lt, _, _, rfl, rfl, _, rfl, by rw [tx_len]; omega, by rw [tx_len]; omega, ?_⟩
      rw [tx_len, show ((g.length : Int) + 1).toNat = g.length + 1 by omega]
      have Mln : M ln = none := wd.fm hln
      refine for_it walk_range (fun m σ H' => ∃ (b6 b7 b8 b9 b10 b11 : Option V), σ = [some (.ref sa), some (.str (tx g)), some (.str (tx x)), some (.ref l), some (.int (0 + (j : Int))), some (.ref ln), b6, b7, b8, b9, b10, b11] ∧ Wd B (upd M ln (.lst (rowV p g x j m))) H')
        ⟨_, _, _, _, _, _, rfl, wd.newM hln⟩ (fun _ _ _ _ _ => trivial) (fun m _ _ _ H2 hm pv y => ?_) (fun σ H2 pv => ?_)
      · obtain ⟨b6, b7, b8, b9, b10, b11, rfl, w2⟩ := pv
        obtain ⟨rfl, rfl⟩ := y
        refine ⟨sz0, fun sm hsm => ?_⟩
        have sl2 := (sl.mono sB).mono w2.b
        refine ⟨_, rfl, _, rfl, _, rfl, _, rfl, _, rfl, lt, _, rfl, _, rfl, _, rfl, _, rfl, lx, sa, p, g.take m, x.take j, by rw [Int.zero_add, Int.zero_add, cut_to, cut_to]; rfl, sl2.mono (Same.new hsm), by rw [List.length_take]; omega, by rw [List.length_take]; omega, fun fl H3 fa => ?_⟩
        obtain ⟨n1, s3, refs, hrefs, pp⟩ := fa
        have n2 : fl ≠ sm := fun z => by
          rw [z, upd_same] at n1
          cases n1
        have smH3 : H3 sm = some (.lst []) := s3 _ _ upd_same
        have s23 : Same H2 H3 := (Same.new hsm).trans s3
        have w3 := w2.mono s23
        have inB : ∀ {a : Addr} {o : HO} (y : List V), H3 a = some o → a ≠ sm → upd H3 sm (.lst y) a = some o := fun y h ne => by
          rw [upd_ne ne]
          exact h
        have lnsm : ln ≠ sm := ne_of_none (w2.m _ _ upd_same) hsm
        have hln3 : H3 ln = some (.lst (rowV p g x j m)) := w3.m _ _ upd_same
        have nll : l ≠ ln := ne_of_none hrows Mln
        have hl2 : (upd M ln (.lst (rowV p g x j m))) l = some (.lst rows) := by
          rw [upd_ne nll]
          exact hrows
        have hl3 := w3.m _ _ hl2
        have lsm : l ≠ sm := ne_of_none (w2.m _ _ hl2) hsm
        have hm' : m ≤ g.length := by omega
        have hj' : j ≤ x.length := by omega
        have sl4 : ∀ y, SlipsAt K (upd H3 sm (.lst y)) sa p := fun y => by
          obtain ⟨dx, h⟩ := sl2
          exact ⟨dx, inB _ (s23 _ _ h) (ne_of_none h hsm)⟩
        have lens : refs.length = (sums p g x m j).length := by
          rw [pp.length]
          unfold sums
          rw [List.length_map]
        have len4 : (sums p g x m j).length ≤ 100000 := by
          unfold sums
          rw [List.length_map]
          exact Nat.le_trans (lastK_len _ _ _) (by decide)
        refine ⟨fl, rfl, ⟨refs, SqL.of hrefs⟩, ?_⟩
        refine for_it (walk_list (xs := refs)) (fun i σ H' => ∃ (b8 b9 b10 b11 : Option V), σ = [some (.ref sa), some (.str (tx g)), some (.str (tx x)), some (.ref l), some (.int (0 + (j : Int))), some (.ref ln), some (.int (0 + (m : Int))), some (.ref sm), b8, b9, b10, b11] ∧ H' = upd H3 sm (.lst (((sums p g x m j).take i).map V.int)))
          ⟨_, _, _, _, rfl, by rw [List.take_zero, List.map_nil]; exact (upd_eta smH3).symm⟩ (fun i σ H4 _ pv => ?_) (fun i _ _ _ H4 hi pv y => ?_) (fun σ H4 pv => ?_)
        · obtain ⟨_, _, _, _, _, rfl⟩ := pv
          exact SqL.of (inB _ hrefs n2)
        · obtain ⟨b8, b9, b10, b11, rfl, rfl⟩ := pv
          obtain ⟨rfl, hx⟩ := y
          obtain ⟨k, hk, a, b, tl, rfl, ha, hb⟩ := paired_at pp hx
          have kin := List.mem_of_getElem? hk
          obtain ⟨kl, kf, kst⟩ := last_sound hm' hj' kin
          have kup := kst.up
          have asm : a ≠ sm := fun z => by
            rw [z, smH3] at ha
            cases ha
          have bsm : b ≠ sm := fun z => by
            rw [z, smH3] at hb
            cases hb
          refine ⟨a, _, rfl, SqT.of (inB _ ha asm), rfl, _, _, rfl, _, _, rfl, _, _, rfl, rfl, ?_⟩
          have av : (sums p g x m j)[i]? = some (cel p g x (m - k.less) (j - k.fewer) + k.cost p) := by
            unfold sums
            rw [List.getElem?_map, hk]
            rfl
          have swk : k = .sw → p.sw.isSome = true := sw_of_last kin
          have mi : 0 + (m : Int) - (k.less : Nat) = ((m - k.less : Nat) : Int) := by omega
          have ji : 0 + (j : Int) - (k.fewer : Nat) = ((j - k.fewer : Nat) : Int) := by omega
          by_cases hf : k.fewer = 0
          case' pos =>
            have kl' : 0 < k.less := by
              cases k <;> first | (exact absurd hf (by decide)) | decide
            refine ⟨_, rfl, rfl, _, rfl, ?_⟩
            rw [hf] at av ⊢
            refine iteT ⟨_, rfl, _, rfl, _, rfl, _, _, rfl, rfl, ln, _, _, _, rfl, rfl, SqL.of (inB _ hln3 lnsm), by rw [mi]; exact atI_nat (rowV_at (by omega)), ?_⟩
          case' neg =>
            obtain ⟨r, hr1, hr2⟩ := rr (j - k.fewer) (by omega)
            have hr3 := w3.b _ _ hr2
            have rsm : r ≠ sm := ne_of_none (w2.b _ _ hr2) hsm
            refine ⟨_, rfl, rfl, _, rfl, ite2 (fun q => absurd (of_decide_eq_true q) (by simp [hf])) (fun _ => ?_)⟩
            refine ⟨_, rfl, _, rfl, _, rfl, _, _, rfl, rfl, l, _, _, _, rfl, rfl, SqL.of (inB _ hl3 lsm), by rw [ji]; exact atI_nat hr1, ?_⟩
            refine ⟨_, rfl, _, rfl, _, _, rfl, rfl, r, _, _, _, rfl, rfl, SqL.of (inB _ hr3 rsm), by rw [mi]; exact atI_nat (rowV_at (by omega)), ?_⟩
          all_goals
            refine ⟨_, rfl, .inl ⟨rfl, _, .inl (.inl upd_same)⟩, ?_⟩
            refine ⟨_, rfl, _, rfl, _, rfl, sa, b, p, k, tl, rfl, sl4 _, inB _ hb bsm, swk, ?_⟩
            refine ⟨_, _, rfl, rfl, sm, _, _, rfl, rfl, upd_same, small_line (by rw [List.length_map, List.length_take]; omega), _, _, _, _, rfl, ?_⟩
            rw [upd_upd, take_snoc av, List.map_append]
            rfl
        · obtain ⟨b8, b9, b10, b11, rfl, rfl⟩ := pv
          rw [lens, List.take_length]
          refine ⟨_, rfl, .inl ⟨rfl, _, .inl (.inl (inB _ hln3 lnsm))⟩, ?_⟩
          refine ⟨_, rfl, sz0, fun e he => ?_⟩
          have esm : sm ≠ e := ne_of_none upd_same he
          have s2e : Same H2 (upd (upd H3 sm (.lst ((sums p g x m j).map V.int))) e (.lst [])) := fun a o h => by
            have h3 := inB ((sums p g x m j).map V.int) (s23 _ _ h) (ne_of_none h hsm)
            exact Same.new he _ _ h3
          have w4 := w2.mono s2e
          have w5 := fun y => w4.put (o' := .lst y) upd_same
          simp only [upd_upd] at w5
          have fin : ∀ v : Int, cel p g x m j = v → Wd B (upd M ln (.lst (rowV p g x j (m + 1)))) (upd (upd (upd H3 sm (.lst ((sums p g x m j).map V.int))) e (.lst [])) ln (.lst (rowV p g x j m ++ [.int v]))) := fun v ev => by
            rw [rowV_succ, ev]
            exact w5 _
          refine ⟨.list ((sums p g x m j).map PyData.int), .list [], .lst (SqL.of (by rw [upd_ne esm]; exact upd_same)) (dp_ints _), .lst (SqL.of upd_same) .nil, PySem.W.shaped_ints _, by decide, ?_⟩
          rw [eqv_ints_nil]
          refine ⟨_, rfl, ?_⟩
          have hln4 := w4.m _ _ upd_same
          have lrow : (rowV p g x j m).length < sizeLine := small_line (by unfold rowV; rw [List.length_map, List.length_range]; omega)
          by_cases en : sums p g x m j = []
          · rw [decide_eq_true en]
            refine iteF ⟨ln, _, _, rfl, rfl, hln4, lrow, ⟨_, _, _, _, _, _, rfl, ?_⟩⟩
            exact fin 0 (sums_nil hm' hj' en)
          · rw [decide_eq_false en]
            refine iteT ⟨_, rfl, sm, sums p g x m j, rfl, SqL.of (by rw [upd_ne esm]; exact upd_same), List.length_pos_iff.mpr en, fun v hv hle => ?_⟩
            refine ⟨ln, _, _, rfl, rfl, hln4, lrow, ⟨_, _, _, _, _, _, rfl, ?_⟩⟩
            exact fin v (sums_min hm' hj' hv hle)
      · obtain ⟨b6, b7, b8, b9, b10, b11, rfl, w2⟩ := pv
        have w3 := w2.frz Mln
        have hl3 := w3.m _ _ hrows
        refine ⟨_, rfl, .inl ⟨rfl, _, .inl (.inl hl3)⟩, ?_⟩
        refine ⟨_, rfl, l, _, _, rfl, rfl, hl3, small_line (by omega), ?_⟩
        refine ⟨_, _, _, _, _, _, _, _, _, _, _, rfl, ?_, w3.put hrows, upd_same, by rw [List.length_append, rl]; rfl, fun i hi => ?_⟩
        · exact sB.trans (Same.new (wd.fb hln))
        · by_cases q : i < j
          · obtain ⟨r, h1, h2⟩ := rr i q
            refine ⟨r, by rw [List.getElem?_append_left (by omega)]; exact h1, ?_⟩
            exact Same.new (wd.fb hln) _ _ h2
          · obtain rfl : i = j := by omega
            exact ⟨ln, by rw [List.getElem?_append_right (by omega), rl]; simp, upd_same⟩
    · obtain ⟨B, M, rows, b4, b5, b6, b7, b8, b9, b10, b11, rfl, sB, wd, hrows, rl, rr⟩ := pv
      obtain ⟨r, h1, h2⟩ := rr x.length (by omega)
      refine ⟨_, rfl, kk l r (rows.take x.length) _ (sB.trans wd.b) ?_ (wd.b _ _ h2)⟩
      have e : rows = rows.take x.length ++ [.ref r] := by
        rw [← take_snoc h1, List.take_of_length_le (by omega)]
      rw [← e]
      exact wd.m _ _ hrows
def N_price : List Str := ["slips", "target", "text"]
theorem sc_price : FnScope N_price ["slips", "target", "text"] (defScope (top 23)) := ⟨rfl, rfl, rfl, by decide +kernel, rfl, by decide +kernel, by decide +kernel⟩
def AzL (x : List Nat) : Prop := (∀ c ∈ x, 97 ≤ c ∧ c ≤ 122) ∧ x.length ≤ 1000
theorem AzL.az {x : List Nat} (h : AzL x) : Az (tx x) := ⟨fun c hc => h.1 c (by simpa using hc), by rw [tx_len]; exact h.2⟩
def spPrice (K : PySem.W.Frag) : Sp := fun vs H Q _ => ∃ (s : Addr) (p : Sl) (g x : List Nat), vs = [.ref s, .str (tx g), .str (tx x)] ∧ SlipsAt K H s p ∧ AzL g ∧ AzL x ∧ ∀ H', Same H H' → Q (.int (dist p g x)) H'
theorem c_price (T : Tx P w K mg) : Cl P w K mg base CX0 5 "price" (spPrice K) := by
  have S := sc_price
  have c_need_text := @c_need_text P w K mg base T
  have c_price_lines := @c_price_lines P w K mg base T
  refine mkCl0 T.d_price T.gf_price S (fun _ _ _ _ _ _ us hl => match us, hl with | [_, _, _], _ => rfl) (fun vs H Q E h => ?_) (fun cdv A outer s H vs Q E hr h => ?_)
  · obtain ⟨s, p, g, x, rfl, _⟩ := h
    rfl
  · obtain ⟨sa, p, g, x, rfl, sl, hg, hx, kk⟩ := h
    refine ⟨_, (pss_cons (ps_expr (pe_f c_need_text hr (by decide) rfl pass0 (pa_cons (pv 1) pa_nil)))
    (pss_cons (ps_expr (pe_f c_need_text hr (by decide) rfl pass0 (pa_cons (pv 2) pa_nil)))
    (pss_one (ps_ret (pe_ix ix_list (pe_ix ix_list (pe_f c_price_lines hr (by decide) rfl pass0 (pa_cons (pv 0) (pa_cons (pv 1) (pa_cons (pv 2) pa_nil)))) (pe_un un_neg pe_int) (fun _ _ => rfl)) (pe_un un_neg pe_int) (fun _ _ => rfl)))))), ?_⟩
    refine ⟨_, rfl, _, rfl, hg.az, fun H1 s1 => ?_⟩
    refine ⟨_, rfl, _, rfl, hx.az, fun H2 s2 => ?_⟩
    have s02 := s1.trans s2
    refine ⟨_, rfl, _, rfl, _, rfl, sa, p, g, x, rfl, sl.mono s02, hg.2, hx.2, fun l r ls H3 s3 hl hrw => ?_⟩
    refine ⟨1, rfl, l, _, -1, _, rfl, rfl, SqL.of hl, atI_last _ _, ?_⟩
    refine ⟨1, rfl, r, _, -1, _, rfl, rfl, SqL.of hrw, by rw [rowV_succ]; exact atI_last _ _, ?_⟩
    exact kk _ (s02.trans s3)
end
end Mw
/-! W6: further rules: enumerate of a tuple, zip of a list and a tuple, sorted of (int, int, text) -/
namespace Mw
open PySem PySem.Spec PyProof.Rows L2
/-! ### enumerate(tuple) -/
/-- the tuple at a as it stands at each turn, each item in a new pair -/
def IteT (K : PySem.W.Frag) (a : Addr) : It :=
  ⟨fun i H => ∃ (xs : List V) (x : V), SqT K H a xs ∧ xs[i]? = some x, fun i H v H' => ∃ T x, v = .ref T ∧ H T = none ∧ H' = upd H T (.tup [.int (i : Nat), x]) ∧ ∀ xs, SqT K H a xs → xs[i]? = some x, fun i H => ∃ xs : List V, SqT K H a xs ∧ xs.length ≤ i⟩
theorem turn_enumT {P : Program} {w : World} {K : PySem.W.Frag} {elts : List Expr} {kk : Nat} {tpos : Pos} (a e it : Addr) :
    Turn P w K (.Tuple elts kk tpos) (IteT K a) [e, it] e (fun i h => (∃ old, IsEnum h e it ((i : Nat) : Int) old) ∧ h.IsTupleIter it a i ∧ e ≠ it) where
  mem := by simp
  obj := fun i h st b hb => by
    obtain ⟨⟨old, he⟩, ⟨o, ho, hc, hd⟩, _⟩ := st
    have e' : b = e ∨ b = it := by simpa using hb
    rcases e' with z | z
    · rw [z]; exact ⟨_, he, fun v q => nomatch q⟩
    · rw [z]; exact ⟨o, ho, fun v q => by rw [hd] at q; cases q⟩
  keep := fun i h h' st k => let ⟨⟨old, he⟩, hi, hne⟩ := st; ⟨⟨old, k e (by simp) _ he⟩, hi.at fun o q => k it (by simp) o q, hne⟩
  item := by
    intro X hP hw hK hc i pins s σ H E I hf st hg
    subst hP hw hK
    obtain ⟨⟨old, he⟩, hit, hne⟩ := st
    obtain ⟨xs, x, hq, hx⟩ := hg
    obtain ⟨its, rv, p, hz⟩ := I.tuple hq
    have p : s.heap.IsTuple a its.toArray := p
    obtain ⟨u, hu, ru⟩ := rv.get hx
    have hel : e < s.heap.objs.size := Heap.lt_size he
    have hil : it < s.heap.objs.size := by obtain ⟨_, q, _⟩ := hit; exact Heap.lt_size q
    have ae : a ≠ e := fun z => by
      obtain ⟨o, ho, hoc, _⟩ := p
      rw [z, he] at ho
      cases ho
      exact absurd (Value.type.inj hoc) (by decide)
    have ai : a ≠ it := fun z => by
      obtain ⟨o, ho, hoc, _⟩ := p
      obtain ⟨o', ho', hoc', _⟩ := hit
      rw [z, ho'] at ho
      cases ho
      rw [hoc'] at hoc
      exact absurd (Value.type.inj hoc) (by decide)
    have hlt : i < its.toArray.size := by
      have := (List.getElem?_eq_some_iff.mp hu).1
      simpa using this
    refine wpAny_pyNext_enum_itemD (Draws.tuple (A := X.A.in1) (I.ok.hd hc) it a ai its.toArray) he ⟨hit, p⟩ hlt hne (by simp [hne, Ne.symm ae]) fun x' h' tk hP' ho st' hT hsz hk => ?_
    obtain rfl : u = x' := by
      have hP'' : its.toArray[i]? = some x' := hP'
      have : its.toArray[i]? = some u := by simpa using hu
      rw [this] at hP''
      exact Option.some.inj hP''
    obtain ⟨hit', _⟩ := st'
    refine ⟨_, rfl, wpAny_letOwnedTupleGo_enum (s := { s with heap := h', toks := tk + 1 }) ho fun h'' he' sb => ?_⟩
    have hT2 : h''.get? s.heap.objs.size = some { cls := .type "tuple", data := .seq #[.int i tk, u] } := (sb.2 _ (Nat.ne_of_gt hel)).trans hT
    have new : ObjOk X.prog X.w (upd H s.heap.objs.size (.tup [.int (i : Nat), x])) h'' s.heap.objs.size (.tup [.int (i : Nat), x]) :=
      ⟨by show 2 ≤ sizeLine; decide, [.int i tk, u], .cons ⟨_, rfl⟩ (.cons ru .nil), ⟨_, hT2, rfl, _, rfl⟩⟩
    have I1 : Inv X pins σ (upd H s.heap.objs.size (.tup [.int (i : Nat), x])) { s with heap := h'', toks := tk + 1 } :=
      I.turnedNew (ch := [e, it]) (fun b ob hb q => (sb.2 b (fun z => hb (by simp [z]))).trans (hk b ob (fun z => hb (by simp [z])) (fun z => hb (by simp [z])) q)) hf (Nat.le_refl _) new
    refine ⟨.ref s.heap.objs.size, _, I1, rfl, ⟨_, x, rfl, I.hok.fresh (Nat.le_refl _), rfl, fun ys hy => by rw [I.tuple_inj hy hq]; exact hx⟩, ⟨⟨u, ?_⟩, hit'.at fun o q => (sb.2 it (Ne.symm hne)).trans q, hne⟩, fun b hb => ?_⟩
    · have e1 : ((i + 1 : Nat) : Int) = (i : Int) + 1 := by omega
      rw [e1]; exact he'
    · have hb' : b < s.heap.objs.size := by
        have e' : b = e ∨ b = it := by simpa using hb
        rcases e' with z | z
        · rw [z]; exact hel
        · rw [z]; exact hil
      rw [upd_ne (Nat.ne_of_lt hb')]
      exact (hf b hb).1
  done := by
    intro X hP hw hK hc i pins s σ H E I hf st hg
    subst hP hw hK
    obtain ⟨⟨old, he⟩, hit, hne⟩ := st
    obtain ⟨xs, hq, hx⟩ := hg
    obtain ⟨its, rv, p, hz⟩ := I.tuple hq
    have p : s.heap.IsTuple a its.toArray := p
    obtain ⟨f0, f1, f2, f3, f4, f5⟩ := hf it (by simp)
    have hl := rv.length
    have hT : s.TypeIs (.ref e) "enumerate" := ⟨_, he, rfl⟩
    unfold pyNext
    refine wpAny_bind (wpAny_attempt (wpAny_callSpecial?_slot (name := PySem.Str.ofString "__next__") hT F.slot_enumerate_next
      (wpAny_call_entry F.slot_enumerate_next hT F.entry_enumerate_next ?_ (F.args_enumerate_next_1 _))))
    show wpAny _ _ (field (.ref e) 2 >>= _) _ _ _
    refine wpAny_bind (wpAny_field he rfl (x := .ref it) rfl ?_)
    refine wpAny_bind (wpAny_nextOf_tuple_end (A := _) (I.ok.hd hc) hit p (by simp; omega) fun h' x eb hx' => ?_)
    obtain ⟨o, ho, hoc⟩ := hx'
    refine wpAny_bind (wpAny_isInstance (T := "StopIteration") (b := true) ⟨o, ho, hoc⟩ isSubtype_stop ?_)
    exact wpAny_pure ⟨rfl, I.turned (t' := s.toks) (fun b o hb q => eb b o hb q) f0 f1 f3 f4 f5⟩
  self := fun A i s Q E st h => let ⟨⟨_, he⟩, _⟩ := st; wpAny_pyIter_enum he h
theorem enum_new1 {v : Value} {o : Obj} {H : Heap → Prop} (B : Begins v o H) :
    Meets (Builtin.«enumerate.__new__» ⟨[.type "enumerate", v], []⟩) (fun _ R s => H s.heap ∧
      R (.ok (.ret (.ref (s.heap.push o).objs.size))) { s with heap := (s.heap.push o).push { cls := .type "enumerate", data := .fields #[.none, .bool false, .ref s.heap.objs.size, rawInt 0, .none, .none] } }) :=
  .of_wp fun prog w A R s h => by
    obtain ⟨hp, g, d, tk, os⟩ := s; obtain ⟨h1, h⟩ := h
    have hsub := sub_enumerate
    have q1 : ∀ {A' : Around} {E : Value → Shared → Prop} {Q : Value → Shared → Prop}, Q (.ref hp.objs.size) ⟨hp.push o, g, d, tk, os⟩ → wpAny (model prog w) A' (pyIter v) Q E ⟨hp, g, d, tk, os⟩ :=
      fun q => B.iter prog w _ _ ⟨hp, g, d, tk, os⟩ _ h1 q
    wp_walk using q1
    refine wpAny_stack_any fun st => wpAny_pure ?_
    split
    · rename_i c _ _ _ _ _
      cases (c == Value.type "enumerate")
      · wp_walk using q1
        exact ⟨_, rfl, h⟩
      · wp_walk using q1
        exact ⟨_, rfl, h⟩
    · wp_walk using q1
      exact ⟨_, rfl, h⟩
section
variable {prog : Program} {w : World} {A : Around} {E : Value → Shared → Prop} {s : Shared}
theorem enum_begins1 {v : Value} {o : Obj} {H : Heap → Prop} {Q : Value → Shared → Prop} (B : Begins v o H) (h1 : H s.heap)
    (h : ∀ h', IsEnum h' (s.heap.objs.size + 1) s.heap.objs.size 0 .none → h'.get? s.heap.objs.size = some o → h'.objs.size = s.heap.objs.size + 2 →
      (∀ b o, s.heap.get? b = some o → h'.get? b = some o) → Q (.ref (s.heap.objs.size + 1)) { s with heap := h' }) :
    wpAny (model prog w) A (call (.type "enumerate") [v]) Q E s := by
  refine callType_new F.called_enumerate (by decide) (F.typeCall_enumerate_1 _) (F.newCall_enumerate_1 _) (fun obj => F.args_object_init_2 obj _) F.entry_enumerate_new
    (enum_new1 B) ⟨h1, ?_⟩
  have hz : (s.heap.push o).objs.size = s.heap.objs.size + 1 := Heap.size_push ..
  show _ ∧ _
  rw [hz]
  have he : IsEnum ((s.heap.push o).push { cls := .type "enumerate", data := .fields #[.none, .bool false, .ref s.heap.objs.size, rawInt 0, .none, .none] }) (s.heap.objs.size + 1) s.heap.objs.size 0 .none := by
    have := Heap.get?_push_size (s.heap.push o) (o := { cls := .type "enumerate", data := .fields #[.none, .bool false, .ref s.heap.objs.size, rawInt 0, .none, .none] }) rfl
    rw [hz] at this; exact this
  refine ⟨⟨_, he, rfl⟩, h _ he (Heap.get?_push_of_some _ (Heap.get?_push_size _ B.free)) (by rw [Heap.size_push, hz]) fun b o x => Heap.get?_push_of_some _ (Heap.get?_push_of_some _ x)⟩
end
/-- enumerate of a list or of a tuple -/
def iEnumA (K : PySem.W.Frag) (ta : TA) : TI := fun σ H R => ta σ H fun vs H1 => ∃ a xs, vs = [.ref a] ∧ ((SqL K H1 a xs ∧ R (Ite K a) H1) ∨ (SqT K H1 a xs ∧ R (IteT K a) H1))
theorem pi_enumA {X : Cx} {e : Expr} {ta : TA} {p pos tpos : Pos} {elts : List Expr} {kk : Nat} (hg : Gl X "enumerate") (hm : X.mg "enumerate" = none) (ha : PA X [e] ta) (hs : starEach [e] X.env = [(false, eval e X.env)] := by rfl) :
    PI X (.Tuple elts kk tpos) (.Call (.Name "enumerate" p) [e] [] pos) (iEnumA X.K ta) := by
  refine ⟨fun pins s σ H R I h => ?_⟩
  refine Call_ (ld_blt I hg hm boot_enumerate (PyProof.Rows.callWith_type1 (thn (ha.run pos pins s σ H _ I h) fun us s1 ⟨vs, H1, I1, r1, q1⟩ => ?_) hs rfl))
  obtain ⟨a, xs, ex, q1⟩ := q1
  subst ex
  have fr : ∀ b, b ∈ [s1.heap.objs.size + 1, s1.heap.objs.size] → FpOk X pins H1 b := fun b hb => by
    have e' : b = s1.heap.objs.size + 1 ∨ b = s1.heap.objs.size := by simpa using hb
    have hle : s1.heap.objs.size ≤ b := by
      rcases e' with z | z
      · rw [z]; exact Nat.le_add_right _ _
      · rw [z]; exact Nat.le_refl _
    exact I1.fpOk hle (I1.hok.fresh hle)
  cases r1 with
  | cons r rr =>
    cases rr
    cases r
    rcases q1 with ⟨hq, q⟩ | ⟨hq, q⟩
    · obtain ⟨its, rv, p', hz⟩ := I1.list hq
      refine call_enumerate_list p'.isList fun h' he hit hsz hk => wpAny_pyIter_enum he ?_
      have I2 : Inv X pins σ H1 { s1 with heap := h' } := I1.kept (t' := s1.toks) hk
      exact ⟨s1.heap.objs.size + 1, [s1.heap.objs.size + 1, s1.heap.objs.size], _, _, H1, rfl, I2, turn_enum a (s1.heap.objs.size + 1) s1.heap.objs.size, ⟨⟨.none, he⟩, hit, Nat.succ_ne_self _⟩, fr, q⟩
    · obtain ⟨its, rv, p', hz⟩ := I1.tuple hq
      refine enum_begins1 (begins_tuple a its.toArray) p' fun h' he hit hsz hk => wpAny_pyIter_enum he ?_
      have I2 : Inv X pins σ H1 { s1 with heap := h' } := I1.kept (t' := s1.toks) hk
      exact ⟨s1.heap.objs.size + 1, [s1.heap.objs.size + 1, s1.heap.objs.size], _, _, H1, rfl, I2, turn_enumT a (s1.heap.objs.size + 1) s1.heap.objs.size, ⟨⟨.none, he⟩, ⟨_, hit, rfl, rfl⟩, Nat.succ_ne_self _⟩, fr, q⟩
theorem walk_enumT {K : PySem.W.Frag} {a : Addr} {xs : List V} : Walk (IteT K a) xs.length (fun H => SqT K H a xs) (YPair (fun i => some (.int (i : Nat))) (fun i => xs[i]?)) := by
  refine ⟨fun i _ hi q => ⟨xs, xs[i], q, by simp [hi]⟩, fun _ q => ⟨xs, q, Nat.le_refl _⟩, fun i H v H' _ q y => ?_⟩
  obtain ⟨T, x, h1, h2, h3, h4⟩ := y
  exact ⟨T, .int (i : Nat), x, h1, h2, h3, rfl, h4 xs q⟩
/-! ### zip(list, tuple) -/
def ItzM (K : PySem.W.Frag) (a b : Addr) : It :=
  ⟨fun i H => ∃ (xs ys : List V) (x y : V), SqL K H a xs ∧ SqT K H b ys ∧ xs[i]? = some x ∧ ys[i]? = some y,
    fun i H v H' => ∃ T x y, v = .ref T ∧ H T = none ∧ H' = upd H T (.tup [x, y]) ∧ (∀ xs, SqL K H a xs → xs[i]? = some x) ∧ ∀ ys, SqT K H b ys → ys[i]? = some y,
    fun i H => ∃ xs ys : List V, SqL K H a xs ∧ SqT K H b ys ∧ xs.length = i ∧ i ≤ ys.length⟩
theorem zip_sep {a b z TI TO i1 i2 : Addr} (D : ZipApart z TI TO i1 i2 a b) : ZipSep2 z TI TO i1 i2 [i1, a] [i2, b] :=
  { TIz := D.TIz, TOz := D.TOz, TITO := D.TITO, TIi1 := D.TIi1, mem1 := by simp, zf1 := by simp [Ne.symm D.i1z, Ne.symm D.l1z], Tf1 := by simp [D.TOi1, Ne.symm D.l1TO],
    TIi2 := D.TIi2, mem2 := by simp, zf2 := by simp [Ne.symm D.i2z, Ne.symm D.l2z], Tf2 := by simp [D.TOi2, Ne.symm D.l2TO], sep1_2 := by simp [D.i12, Ne.symm D.l2i1], sep2_1 := by simp [Ne.symm D.i12, Ne.symm D.l1i2] }
theorem turn_zipM {P : Program} {w : World} {K : PySem.W.Frag} {elts : List Expr} {kk : Nat} {tpos : Pos} {a b z TI TO i1 i2 : Addr} (D : ZipApart z TI TO i1 i2 a b) :
    Turn P w K (.Tuple elts kk tpos) (ItzM K a b) [z, TI, TO, i1, i2] z (fun i h => IsZip h z TI TO .none ∧ IsPair h TI (.ref i1) (.ref i2) ∧ (∃ x y, IsPair h TO x y) ∧ h.IsListIter i1 a i ∧ h.IsTupleIter i2 b i) where
  mem := by simp
  obj := fun i h st c hc => by
    obtain ⟨hz, hTI, ⟨x, y, hTO⟩, ⟨o1, e1, _, d1⟩, ⟨o2, e2, _, d2⟩⟩ := st
    have e' : c = z ∨ c = TI ∨ c = TO ∨ c = i1 ∨ c = i2 := by simpa using hc
    rcases e' with q | q | q | q | q
    · rw [q]; exact ⟨_, hz, fun v q => nomatch q⟩
    · rw [q]; exact ⟨_, hTI, fun v q => nomatch q⟩
    · rw [q]; exact ⟨_, hTO, fun v q => nomatch q⟩
    · rw [q]; exact ⟨o1, e1, fun v q => by rw [d1] at q; cases q⟩
    · rw [q]; exact ⟨o2, e2, fun v q => by rw [d2] at q; cases q⟩
  keep := fun i h h' st k => by
    obtain ⟨hz, hTI, ⟨x, y, hTO⟩, h1, h2⟩ := st
    exact ⟨k z (by simp) _ hz, k TI (by simp) _ hTI, ⟨x, y, k TO (by simp) _ hTO⟩, h1.at fun o q => k i1 (by simp) o q, h2.at fun o q => k i2 (by simp) o q⟩
  item := by
    intro X hP hw hK hc i pins s σ H E I hf st hg
    subst hP hw hK
    obtain ⟨hz, hTI, ⟨x0, y0, hTO⟩, h1, h2⟩ := st
    obtain ⟨xs, ys, x, y, hqx, hqy, hx, hy⟩ := hg
    obtain ⟨its, rv, p, _⟩ := I.list hqx
    obtain ⟨its2, rv2, p2, _⟩ := I.tuple hqy
    have p2 : s.heap.IsTuple b its2.toArray := p2
    obtain ⟨u, hu, ru⟩ := rv.get hx
    obtain ⟨u2, hu2, ru2⟩ := rv2.get hy
    have hzl : z < s.heap.objs.size := Heap.lt_size hz
    have n1 : i < its.toArray.size := by simpa using (List.getElem?_eq_some_iff.mp hu).1
    have n2 : i < its2.toArray.size := by simpa using (List.getElem?_eq_some_iff.mp hu2).1
    have S := zip_sep D
    have D1 := Draws.list (prog := X.prog) (w := X.w) (A := X.A.in1) (I.ok.hd hc) i1 a D.l1i1 its.toArray
    have D2 := Draws.tuple (prog := X.prog) (w := X.w) (A := X.A.in1) (I.ok.hd hc) i2 b D.l2i2 its2.toArray
    refine wpAny_pyNext_zipD2_item S D1 D2 hz hTI hTO ⟨h1, p.isList⟩ ⟨h2, p2⟩ n1 n2 fun x1 x2 h' tk hP1 hP2 z' TO' st1 st2 hT hsz hk => ?_
    obtain rfl : u = x1 := Option.some.inj ((show its.toArray[i]? = some u by simpa using hu).symm.trans hP1)
    obtain rfl : u2 = x2 := Option.some.inj ((show its2.toArray[i]? = some u2 by simpa using hu2).symm.trans hP2)
    obtain ⟨h1', _⟩ := st1
    obtain ⟨h2', _⟩ := st2
    refine ⟨_, rfl, wpAny_letOwnedTupleGo_zip (s := { s with heap := h', toks := tk }) z' fun h'' z'' sb => ?_⟩
    have hT2 : h''.get? s.heap.objs.size = some { cls := .type "tuple", data := .seq #[u, u2] } := (sb.2 _ (Nat.ne_of_gt hzl)).trans hT
    have new : ObjOk X.prog X.w (upd H s.heap.objs.size (.tup [x, y])) h'' s.heap.objs.size (.tup [x, y]) :=
      ⟨by show 2 ≤ sizeLine; decide, [u, u2], .cons ru (.cons ru2 .nil), ⟨_, hT2, rfl, _, rfl⟩⟩
    have I1 : L2.Inv X pins σ (upd H s.heap.objs.size (.tup [x, y])) { s with heap := h'', toks := tk } :=
      I.turnedNew (t' := tk) (ch := [z, TI, TO, i1, i2]) (fun c o hb q => (sb.2 c (fun q' => hb (by simp [q']))).trans (hk c o (fun q' => hb (by simp [q'])) (fun q' => hb (by simp [q'])) (fun q' => hb (by simp [q'])) (fun q' => hb (by simp [q'])) q)) hf (Nat.le_refl _) new
    refine ⟨.ref s.heap.objs.size, _, I1, rfl, ⟨_, x, y, rfl, I.hok.fresh (Nat.le_refl _), rfl, fun l hl => by rw [I.list_inj hl hqx]; exact hx, fun l hl => by rw [I.tuple_inj hl hqy]; exact hy⟩, ⟨z'', ?_, ⟨u, u2, ?_⟩, ?_, ?_⟩, fun c hcm => ?_⟩
    · exact (sb.2 _ D.TIz).trans (hk _ _ D.TIz D.TITO D.TIi1 D.TIi2 hTI)
    · exact (sb.2 _ D.TOz).trans TO'
    · exact h1'.at fun o q => (sb.2 _ D.i1z).trans q
    · exact h2'.at fun o q => (sb.2 _ D.i2z).trans q
    · have hlt : c < s.heap.objs.size := by
        have e' : c = z ∨ c = TI ∨ c = TO ∨ c = i1 ∨ c = i2 := by simpa using hcm
        rcases e' with q | q | q | q | q
        · rw [q]; exact hzl
        · rw [q]; exact Heap.lt_size hTI
        · rw [q]; exact Heap.lt_size hTO
        · rw [q]; obtain ⟨_, e1, _⟩ := h1; exact Heap.lt_size e1
        · rw [q]; obtain ⟨_, e2, _⟩ := h2; exact Heap.lt_size e2
      rw [upd_ne (Nat.ne_of_lt hlt)]
      exact (hf c hcm).1
  done := by
    intro X hP hw hK hc i pins s σ H E I hf st hg
    subst hP hw hK
    obtain ⟨hz, hTI, ⟨x0, y0, hTO⟩, h1, h2⟩ := st
    obtain ⟨xs, ys, hqx, hqy, e1, e2⟩ := hg
    obtain ⟨its, rv, p, _⟩ := I.list hqx
    obtain ⟨its2, rv2, p2, _⟩ := I.tuple hqy
    have p2 : s.heap.IsTuple b its2.toArray := p2
    have l1 := rv.length
    have l2 := rv2.length
    have S := zip_sep D
    have D1 := Draws.list (prog := X.prog) (w := X.w) (A := X.A.in1) (I.ok.hd hc) i1 a D.l1i1 its.toArray
    have D2 := Draws.tuple (prog := X.prog) (w := X.w) (A := X.A.in1) (I.ok.hd hc) i2 b D.l2i2 its2.toArray
    exact wpAny_pyNext_zipD2_end S D1 D2 hz hTI hTO ⟨h1, p.isList⟩ ⟨h2, p2⟩ (by simp; omega) (by simp; omega) (.inl (by simp; omega)) fun h' tk hk => ⟨rfl, I.turnedL (t' := tk) (ch := [z, TI, TO, i1, i2]) (fun c o hb q =>
      hk c o (fun q' => hb (by simp [q'])) (fun q' => hb (by simp [q'])) (fun q' => hb (by simp [q'])) (fun q' => hb (by simp [q'])) q) hf⟩
  self := fun A i s Q E st h => wpAny_pyIter_zip st.1 h
def iZipM (K : PySem.W.Frag) (ta : TA) : TI := fun σ H R => ta σ H fun vs H1 => ∃ a b xs ys, vs = [.ref a, .ref b] ∧ SqL K H1 a xs ∧ SqT K H1 b ys ∧ R (ItzM K a b) H1
theorem pi_zipM {X : Cx} {e e2 : Expr} {ta : TA} {p pos tpos : Pos} {elts : List Expr} {kk : Nat} (hg : Gl X "zip") (hm : X.mg "zip" = none) (ha : PA X [e, e2] ta)
    (hs : starEach [e, e2] X.env = (false, eval e X.env) :: starEach [e2] X.env := by rfl) (hpl : (backTo pos (starEach [e2] X.env)).any (·.1) = false := by rfl) :
    PI X (.Tuple elts kk tpos) (.Call (.Name "zip" p) [e, e2] [] pos) (iZipM X.K ta) := by
  refine ⟨fun pins s σ H R I h => ?_⟩
  refine Call_ (ld_blt I hg hm PyProof.Rows.boot_zip (PyProof.Rows.callWith_type1 (thn (ha.run pos pins s σ H _ I h) fun us s1 ⟨vs, H1, I1, r1, q1⟩ => ?_) hs hpl))
  obtain ⟨a, b, xs, ys, ex, hqx, hqy, q⟩ := q1
  subst ex
  cases r1 with
  | cons r rr =>
    cases rr with
    | cons r' rr =>
      cases rr
      cases r
      cases r'
      have fresh5 : ∀ c, c ∈ [s1.heap.objs.size + 4, s1.heap.objs.size + 2, s1.heap.objs.size + 3, s1.heap.objs.size, s1.heap.objs.size + 1] → FpOk X pins H1 c := fun c hcm => by
        have e' : c = s1.heap.objs.size + 4 ∨ c = s1.heap.objs.size + 2 ∨ c = s1.heap.objs.size + 3 ∨ c = s1.heap.objs.size ∨ c = s1.heap.objs.size + 1 := by simpa using hcm
        have hle : s1.heap.objs.size ≤ c := by
          rcases e' with z | z | z | z | z
          · rw [z]; exact Nat.le_add_right _ _
          · rw [z]; exact Nat.le_add_right _ _
          · rw [z]; exact Nat.le_add_right _ _
          · rw [z]; exact Nat.le_refl _
          · rw [z]; exact Nat.le_add_right _ _
        exact I1.fpOk hle (I1.hok.fresh hle)
      obtain ⟨its, rv, p1, _⟩ := I1.list hqx
      obtain ⟨its2, rv2, p2, _⟩ := I1.tuple hqy
      have p2 : s1.heap.IsTuple b its2.toArray := p2
      obtain ⟨o2, ho2, _⟩ := id p2
      refine zip_begins2 (begins_list a its.toArray) (begins_tuple b its2.toArray) p1.isList p2 fun h' hz hTI hTO h1 h2 hsz hk => wpAny_pyIter_zip hz ?_
      have I2 : L2.Inv X pins σ H1 { s1 with heap := h' } := I1.kept (t' := s1.toks) hk
      exact ⟨s1.heap.objs.size + 4, [s1.heap.objs.size + 4, s1.heap.objs.size + 2, s1.heap.objs.size + 3, s1.heap.objs.size, s1.heap.objs.size + 1], _, _, H1, rfl, I2, turn_zipM (PySem.W.ktu_apart s1.heap.objs.size a b p1.lt (Heap.lt_size ho2)), ⟨hz, hTI, ⟨_, _, hTO⟩, ⟨_, h1, rfl, rfl⟩, ⟨_, h2, rfl, rfl⟩⟩, fresh5, q⟩
theorem walk_zipM {K : PySem.W.Frag} {a b : Addr} {xs ys : List V} (hl : xs.length ≤ ys.length) : Walk (ItzM K a b) xs.length (fun H => SqL K H a xs ∧ SqT K H b ys) (YPair (fun i => xs[i]?) (fun i => ys[i]?)) := by
  refine ⟨fun i _ hi q => ⟨xs, ys, xs[i], ys[i]'(by omega), q.1, q.2, by simp [hi], by simp [show i < ys.length by omega]⟩, fun _ q => ⟨xs, ys, q.1, q.2, rfl, hl⟩, fun i H v H' _ q y => ?_⟩
  obtain ⟨T, x, z, h1, h2, h3, h4, h5⟩ := y
  exact ⟨T, x, z, h1, h2, h3, h4 xs q.1, h5 ys q.2⟩
end Mw
/-! W7: further rules: sorted of (int, int, text); the own classes' special methods -/
namespace Mw
open PySem PySem.Spec PyProof.Rows L2
/-! ### sorted of (int, int, text), no two of the same ints -/
section
variable {prog : Program} {w : World} {A : Around} {E : Value → Shared → Prop} {s : Shared}
open SrtO
def IsTrip (h : Heap) (v : Value) (k : Int × Int) (z : Str) : Prop := ∃ a o t u r n, v = .ref a ∧ h.get? a = some o ∧ o.cls = .type "tuple" ∧ o.data = .seq #[.int k.1 t, .int k.2 u, .str z r] n
theorem IsTrip.keeps {h h' : Heap} {v : Value} {k : Int × Int} {z : Str} (p : IsTrip h v k z) (kp : ∀ b o, h.get? b = some o → o.cls = .type "tuple" → h'.get? b = some o) : IsTrip h' v k z := by
  obtain ⟨a, o, t, u, r, n, e, ho, hc, hd⟩ := p
  exact ⟨a, o, t, u, r, n, e, kp _ _ ho hc, hc, hd⟩
theorem trip_cmp {vs : List Value} {k : Value → Int × Int} {z : Value → Str} (hp : ∀ v ∈ vs, IsTrip s.heap v (k v) (z v)) (hz : ∀ v ∈ vs, ∀ u ∈ vs, k v = k u → z v = z u) : Cmp prog w A s (tuples' true) (fun p => p.1 ∈ vs) (lt2 fun v u => lexB (k v) (k u)) := by
  intro p q hm hm'
  have h1 := hp _ hm
  have h2 := hp _ hm'
  have h3 := hz _ hm _ hm'
  show wpAny (model prog w) A (keyLt' (tuples' true) p.1 q.1) (fun r s' => s' = s ∧ r = lexB (k p.1) (k q.1)) (fun _ _ => False) s
  unfold lexB
  generalize z p.1 = zp at h1 h3
  generalize z q.1 = zq at h2 h3
  rcases hk : k p.1 with ⟨x, y⟩
  rcases hk' : k q.1 with ⟨x', y'⟩
  rw [hk] at h1 h3
  rw [hk'] at h2 h3
  obtain ⟨a, o, t, u, r, n, e, ho, hc, hd⟩ := h1
  obtain ⟨a', o', t', u', r', n', e', ho', hc', hd'⟩ := h2
  rw [e, e']
  refine PySem.W.kat_lt ho hd ho' hd' ?_
  show PySem.W.KatLex prog w A true (decide (3 < 3)) _ [(.int x t, .int x' t'), (.int y u, .int y' u'), (.str zp r, .str zq r')] 0 s
  refine PySem.W.kat_cons (SeqAt.EqAt.int_int x t x' t' prog w _ _ ?_)
  refine PySem.W.kat_go (fun e1 => ?_) (fun e1 => ?_)
  · have ex : x = x' := by simpa using e1
    refine PySem.W.kat_yes (PySem.W.kat_cons (SeqAt.EqAt.int_int y u y' u' prog w _ _ ?_))
    refine PySem.W.kat_go (fun e2 => ?_) (fun e2 => ?_)
    · have ey : y = y' := by simpa using e2
      have ez : zp = zq := h3 (by rw [ex, ey])
      have e3 : (if x = x' then decide (y < y') else decide (x < x')) = false := by
        rw [if_pos ex, ey]
        exact decide_eq_false (Int.lt_irrefl _)
      refine PySem.W.kat_yes (PySem.W.kat_cons (SeqAt.EqAt.str_str zp r zq r' prog w _ _ ?_))
      rw [ez, beq_self_eq_true]
      exact PySem.W.kat_yes (PySem.W.kat_nil ⟨rfl, e3.symm⟩)
    · have e3 : (if x = x' then decide (y < y') else decide (x < x')) = decide (y < y') := if_pos ex
      refine PySem.W.kat_no (PySem.W.kat_one _ _ (PyProof.Rows.lt_int ?_))
      exact (show s = s ∧ decide (y < y') = (if x = x' then decide (y < y') else decide (x < x')) from ⟨rfl, e3.symm⟩)
  · have ex : ¬ x = x' := by simpa using e1
    have e3 : (if x = x' then decide (y < y') else decide (x < x')) = decide (x < x') := if_neg ex
    exact PySem.W.kat_no (oneLt_int ⟨rfl, e3.symm⟩)
theorem trip_firsts {h : Heap} {k : Value → Int × Int} {z : Value → Str} : ∀ {vs : List Value}, (∀ v ∈ vs, IsTrip h v (k v) (z v)) → ∃ fs : List Value, PySem.W.KatTups h vs fs ∧ fs.length = vs.length ∧ ∀ f ∈ fs, ∃ x t, f = Value.int x t
  | [], _ => ⟨[], PySem.W.KatTups.nil, rfl, fun _ hm => by simp at hm⟩
  | v :: vs, hp => by
    obtain ⟨fs, h1, h2, h3⟩ := trip_firsts (vs := vs) fun v' hm => hp v' (List.mem_cons_of_mem _ hm)
    obtain ⟨a, o, t, u, r, n, e, ho, hc, hd⟩ := hp v (List.mem_cons_self ..)
    refine ⟨.int (k v).1 t :: fs, ?_, by rw [List.length_cons, List.length_cons, h2], fun f hm => ?_⟩
    · rw [e] at hd ⊢
      exact PySem.W.KatTups.cons ho hc hd rfl h1
    · rcases List.mem_cons.mp hm with rfl | hm
      · exact ⟨_, t, rfl⟩
      · exact h3 f hm
theorem trips_sortable {a : Addr} {vs : List Value} {k : Value → Int × Int} {z : Value → Str} (h0 : 0 < vs.length) (hp : ∀ v ∈ vs, IsTrip s.heap v (k v) (z v)) (hz : ∀ v ∈ vs, ∀ u ∈ vs, k v = k u → z v = z u) (ha : ∀ o, s.heap.get? a = some o → o.cls ≠ .type "tuple") :
    SortableO prog w A s a vs fun v u => lexB (k v) (k u) := by
  intro h' keep
  have hp' : ∀ v ∈ vs, IsTrip h' v (k v) (z v) := fun v hm => (hp v hm).keeps fun b o e c => keep b o (fun z => by subst z; exact ha o e c) e
  obtain ⟨fs, h1, h2, h3⟩ := trip_firsts hp'
  refine ⟨tuples' true, fun Q E hq => ?_, trip_cmp hp' hz⟩
  refine PySem.W.kat_kind (T := .type "int") h1 (by omega) (fun f hm => ?_) (by rfl) ?_
  · obtain ⟨x, t, rfl⟩ := h3 f hm
    exact PySem.W.Looks.now
  · have e : (Value.type "int" != Value.type "tuple") = true := by first | decide +kernel | rfl | decide
    rw [e]
    exact hq
theorem sorted_trips {l : Addr} {vs : List Value} {k : Value → Int × Int} {z : Value → Str} {Q : Value → Shared → Prop} (hl : s.heap.IsList l vs.toArray) (hsz : vs.length ≤ sizeLine) (hp : ∀ v ∈ vs, IsTrip s.heap v (k v) (z v)) (hz : ∀ v ∈ vs, ∀ u ∈ vs, k v = k u → z v = z u)
    (h : ∀ (h' : Heap) (d : Addr) (out : List Value), Srtd (fun v u => lexB (k v) (k u)) out → Stb (fun v u => lexB (k v) (k u)) out vs → (∀ b o, s.heap.get? b = some o → h'.get? b = some o) → s.heap.objs.size ≤ d → (∃ n, h'.get? d = some (seqObj "list" out.toArray n)) → Q (.ref d) { s with heap := h' }) :
    wpAny (model prog w) A (call (.builtin "sorted") [.ref l]) Q E s := by
  refine sorted_ord (swo_lex k) hl hsz (fun h2 h₁ a ha kk => ?_) fun out hs hb => ?_
  · refine trips_sortable (s := { s with heap := h₁ }) (by omega) (fun v hm => (hp v hm).keeps fun b o e _ => (kk b o e).2) hz fun o e => ?_
    have e' : some o = some (seqObj "list" vs.toArray 0) := e.symm.trans ha
    cases e'
    intro c
    exact absurd (Value.type.inj c) (by decide)
  · exact h _ _ out hs hb (fun b o e => sortedAll_old e) (Nat.le_succ _) (sortedAll_at s.heap vs out.toArray)
end
/-- sorted(xs), xs a list of (int, int, text), the text told by the ints -/
def rSorted3 (K : PySem.W.Frag) : List V → Hp → VK → Prop := fun vs H Q => ∃ (a : Addr) (xs : List V) (k : V → Int × Int) (z : V → Str), vs = [V.ref a] ∧ SqL K H a xs ∧ (∀ x ∈ xs, ∃ t, x = V.ref t ∧ H t = some (.tup [.int (k x).1, .int (k x).2, .str (z x)])) ∧
  (∀ x ∈ xs, ∀ y ∈ xs, k x = k y → z x = z y) ∧ ∀ ys p, SrtO.Srtd (ltP k) ys → SrtO.Stb (ltP k) ys xs → H p = none → Q (.ref p) (upd H p (.lst ys))
theorem vals3 {a b c : V} {us : List Value} (h : Vals [a, b, c] us) : ∃ u v r, us = [u, v, r] ∧ RelV a u ∧ RelV b v ∧ RelV c r := by
  cases h with
  | cons r1 h =>
    cases h with
    | cons r2 h =>
      cases h with
      | cons r3 h =>
        cases h
        exact ⟨_, _, _, rfl, r1, r2, r3⟩
theorem cr_sorted3 {X : Cx} : CallR X (.builtin "sorted") (rSorted3 X.K) := by
  intro pins s σ H vs us Q I r h
  obtain ⟨a, xs, k, z, rfl, hs, hx, hz, q⟩ := h
  obtain ⟨its, rv, hl, hsz⟩ := I.list hs
  obtain ⟨u, rfl, ru⟩ := vals1 r
  obtain rfl : u = Value.ref a := ru
  obtain ⟨e1, e2⟩ := refs_back rv fun x m => by
    obtain ⟨t, e, _⟩ := hx x m
    exact ⟨t, e⟩
  have hin : ∀ v ∈ its, backV v ∈ xs := fun v hv => by rw [e1]; exact List.mem_map.mpr ⟨_, hv, rfl⟩
  refine sorted_trips (k := fun u => k (backV u)) (z := fun u => z (backV u)) hl.isList (by rw [← rv.length]; exact hsz) (fun v hv => ?_) (fun v hv u hu => hz _ (hin v hv) _ (hin u hu)) fun h' d out h1 h2 kp hd hn => ?_
  · obtain ⟨t, rfl⟩ := e2 v hv
    have hm : V.ref t ∈ xs := hin _ hv
    obtain ⟨t', e, ht⟩ := hx _ hm
    cases e
    obtain ⟨_, its2, r2, o, ho, hc, n, hd⟩ := I.hok _ _ ht
    obtain ⟨u1, u2, u3, rfl, ri, rj, rk⟩ := vals3 r2
    obtain ⟨t1, rfl⟩ := ri
    obtain ⟨t2, rfl⟩ := rj
    obtain ⟨t3, rfl⟩ := rk
    exact ⟨t, o, t1, t2, t3, n, rfl, ho, hc, hd⟩
  · have h3 : ∀ u ∈ out, ∃ a, u = Value.ref a := fun u hu => e2 u (h2.perm.mem_iff.mp hu)
    obtain ⟨n, hn⟩ := hn
    have hb : SrtO.Stb (ltP k) (out.map backV) xs := by
      rw [e1]
      exact SrtO.Stb.map (ltP_swo k) backV h2
    refine ⟨.ref d, upd H d (.lst (out.map backV)), I.laid (t' := s.toks) kp hd ⟨?_, out, n, vals_back h3, hn⟩, rfl, q _ d (SrtO.srtd_map h1) hb (I.hok.fresh hd)⟩
    rw [hb.len]
    exact hsz
/-! ### special methods of own classes -/
section
variable {X : Cx} {CX : CXT} {k j : Nat} {C : Addr} {m : Str} {sp : Sp} {E : XK}
/-- the callee runs, at any level with room -/
theorem run_at {f : Addr} {fd : FuncData} {ps : List Str} {A : Around} {pins : List (Addr × Obj)} {σ : L2.St} {H : Hp} {s : Shared} {Q : VK} {us : List Value} {vs : List V} (F : FnOk X.prog X.w X.K X.mg X.base CX k f fd ps sp) (hr : Room k A) (fr : A.frames = X.A.frames) (hb : Binds X.K fd ps []) (hx : Passes CX X E)
    (I : L2.Inv X pins σ H s) (r : Vals vs us) (h : sp vs H Q E) : wpAny (model X.prog X.w) A (call (.ref f) us) (EP X pins σ Q) X.xe s := by
  have e0 : Env0 X.prog X.w X.K X.mg X.base A X.stack s H := by
    have e := I.env0
    exact ⟨by rw [fr]; exact e.frames, e.mod, e.bs, e.bsz, e.funs, e.frf, e.hok, e.bare⟩
  have hl := F.len _ _ _ _ h
  refine wpAny_call (codeAny_mono (F.run A X.stack s H ⟨us, []⟩ us vs Q E hr e0 (by
    have := hb s us I.kIn (by simpa [← r.length] using hl)
    simpa using this) r h) fun r s' hq => ?_)
  cases r with
  | error e => exact hx pins σ H s e s' I hq
  | ok fl =>
    cases fl with
    | ret u => exact I.after hq
    | next => exact False.elim hq
    | brk => exact False.elim hq
    | cont => exact False.elim hq
theorem EP.imp {X : Cx} {pins : List (Addr × Obj)} {σ : L2.St} {Q Q' : VK} {u : Value} {s : Shared} (h : ∀ v H, Q v H → Q' v H) (e : EP X pins σ Q u s) : EP X pins σ Q' u s := by
  obtain ⟨v, H, I, r, q⟩ := e
  exact ⟨v, H, I, r, h _ _ q⟩
/-- what is asked of x: an instance of C -/
def InC (C : Addr) (sp : Sp) (E : XK) (x : V) (ys : List V) (H : Hp) (Q : VK) : Prop := ∃ a dx fs, x = .ref a ∧ H a = some (.ins C dx fs) ∧ sp (.ref a :: ys) H Q E
/-- x in o -/
theorem op_inO (c : Mt X.prog X.w X.K X.mg X.base CX k C "__contains__" sp) (hr : Room j X.A) (hk : k ≤ j) (hx : Passes CX X E) : OpR X (compareOp .In) (fun x y H Q => InC C sp E y [x] H fun v H' => ∃ b, v = .bl b ∧ Q (.bl b) H') := by
  intro pins s σ H x y v u Q I rx ry hq
  obtain ⟨f, fd, ps, cl, me, F, b⟩ := c.ex
  obtain ⟨a, dx, fs, rfl, ha, h⟩ := hq
  cases ry
  obtain ⟨mA, J, _⟩ := ins_get I.hok ha
  obtain ⟨od, J, _⟩ := J.look
  obtain ⟨m, hF⟩ := I.fr
  refine PySem.W.in_K hF I.ok.mod.kin J me.at_ me.fn ?_
  refine thn (run_at F (hr.mono hk) rfl b hx I (vs := [.ref a, x]) (.cons rfl (.cons rx .nil)) h) fun r s1 ⟨z, H1, I1, rz, b', e, q⟩ => ?_
  subst e
  cases rz
  exact wpAny_truthy_bool ⟨.bl b', H1, I1, rfl, q⟩
/-- o == y -/
def Oth (K : PySem.W.Frag) (C : Addr) (H : Hp) (y : V) : Prop := (∃ b C' dy gs, y = .ref b ∧ H b = some (.ins C' dy gs) ∧ PySem.W.notFirst K C (.ref C') = true) ∨ (y = .non ∧ PySem.W.notFirst K C (.type "NoneType") = true)
theorem Oth.same {K : PySem.W.Frag} {C : Addr} {H : Hp} {b dy : Addr} {gs : List (Str × V)} (h : H b = some (.ins C dy gs)) : Oth K C H (.ref b) := .inl ⟨b, C, dy, gs, rfl, h, by simp [PySem.W.notFirst]⟩
theorem op_eqO (c : Mt X.prog X.w X.K X.mg X.base CX k C "__eq__" sp) (hr : Room j X.A) (hk : k ≤ j) (hx : Passes CX X E) : OpR X (compareOp .Eq) (fun x y H Q => Oth X.K C H y ∧ InC C sp E x [y] H fun v H' => ∃ b, v = .bl b ∧ Q (.bl b) H') := by
  intro pins s σ H x y v u Q I rx ry hq
  obtain ⟨f, fd, ps, cl, me, F, b⟩ := c.ex
  obtain ⟨ho, a, dx, fs, rfl, ha, h⟩ := hq
  cases rx
  obtain ⟨mA, J, _⟩ := ins_get I.hok ha
  obtain ⟨od, J, _⟩ := J.look
  obtain ⟨m, hF⟩ := I.fr
  have core : ∀ tb, PySem.W.Looks (model X.prog X.w) s.heap (typeOf u) tb → PySem.W.notFirst X.K C tb = true → wpAny (model X.prog X.w) X.A (compareOp .Eq (.ref a) u) (EP X pins σ Q) X.xe s := fun tb hl hn => by
    refine PySem.W.cmp_K (op := .Eq) hr.units0 hF I.ok.mod.kin J hl hn me.at_ me.fn ?_
    refine thn (run_at F (hr.mono hk) rfl b hx I (vs := [.ref a, y]) (.cons rfl (.cons ry .nil)) h) fun r s1 ⟨z, H1, I1, rz, b', e, q⟩ => ?_
    subst e
    cases rz
    exact ⟨.bl b', H1, I1, rfl, q⟩
  rcases ho with ⟨b, C', dy, gs, rfl, hb, hn⟩ | ⟨rfl, hn⟩
  · cases ry
    obtain ⟨mB, J', _⟩ := ins_get I.hok hb
    obtain ⟨od', J', _⟩ := J'.look
    exact core _ J'.type hn
  · cases ry
    exact core _ (PySem.W.Looks.of_pure rfl) hn
/-- x[y] -/
theorem pe_subO {a b : Expr} {ta tb : TE} {pos : Pos} (c : Mt X.prog X.w X.K X.mg X.base CX k C "__getitem__" sp) (hfn : ∀ f, Meth X.K C "__getitem__" f → PySem.W.fnIn X.K f = true) (hr : Room j X.A) (hk : k + 1 ≤ j) (hx : Passes CX X E) (ha : PE X a ta) (hb : PE X b tb)
    (hs : ∀ v u, subscripted b true v u = runValue (.builtin "lifetime.subscript" ⟨[v, u], []⟩) := by intros; with_unfolding_all rfl) :
    PE X (.Subscript a b pos) (tOp (fun x y H Q => InC C sp E x [y] H Q) ta tb) := by
  refine ⟨fun pins s σ H Q I h => ?_⟩
  refine Subscript_ (binT ha hb I h fun v u s2 x y H2 I2 rx ry q => ?_)
  obtain ⟨f, fd, ps, cl, me, F, b⟩ := c.ex
  obtain ⟨a, dx, fs, rfl, ha, h⟩ := q
  cases rx
  obtain ⟨mA, J, _⟩ := ins_get I2.hok ha
  obtain ⟨od, J, _⟩ := J.look
  obtain ⟨m, hF⟩ := I2.fr
  exact PySem.W.sub_K hF I2.ok.mod.kin J me.at_ (hfn f me) me.fn (run_at F (hr.mono hk).in1 rfl b hx I2 (vs := [.ref a, y]) (.cons rfl (.cons ry .nil)) h) (hs _ _)
/-- o - y, y a text -/
theorem op_subO (c : Mt X.prog X.w X.K X.mg X.base CX k C "__sub__" sp) (hr : Room j X.A) (hk : k ≤ j) (hx : Passes CX X E) (hc : PySem.W.selfFirst X.K C = true) {fo ro : Option Value} (h0 : PySem.W.findIn X.K (.ref C) "__rsub__" = some none)
    (h1 : PySem.W.findIn X.K (.type "str") "__sub__" = some fo) (h2 : PySem.W.findIn X.K (.type "str") "__rsub__" = some ro) (hsub : PySem.W.subIn X.K (.type "str") (.ref C) = some false) :
    OpR X (binaryOp .Sub) (fun x y H Q => (∃ z, y = .str z) ∧ InC C sp E x [y] H fun v H' => ∃ a, v = .ref a ∧ Q v H') := by
  intro pins s σ H x y v u Q I rx ry hq
  obtain ⟨f, fd, ps, cl, me, F, b⟩ := c.ex
  obtain ⟨⟨z, rfl⟩, a, dx, fs, rfl, ha, h⟩ := hq
  obtain ⟨mA, J, _⟩ := ins_get I.hok ha
  obtain ⟨od, J, _⟩ := J.look
  obtain ⟨m, hF⟩ := I.fr
  obtain ⟨t, rfl⟩ := ry
  cases rx
  refine PySem.W.ksp_binT (T := "str") hF I.ok.mod.kin J rfl hc me.at_ me.fn h0 (.inl rfl) h1 h2 hsub ?_
  refine thn (run_at F (hr.mono hk) rfl b hx I (vs := [.ref a, .str z]) (.cons rfl (.cons ⟨t, rfl⟩ .nil)) h) fun r s1 ⟨z, H1, I1, rz, b', e, q⟩ => ?_
  subst e
  cases rz
  exact ⟨.ref b', H1, I1, rfl, q⟩
end
section
variable {prog : Program} {w : World} {A : Around} {E : Value → Shared → Prop} {s : Shared} {K : PySem.W.Frag} {x C f : Addr} {ox : Obj} {od : Option Obj} {b : Value}
open PySem.W
/-- o != y by the own __eq__ -/
theorem ne_raw {Q : Value → Shared → Prop} (hu : A.units + 1 < cLine) (X : K.In s.heap) (I : InstAt s.heap x ox C od) (hb : Looks (model prog w) s.heap (typeOf b) (.ref C)) (hn : findIn K (.ref C) "__ne__" = some (some (.builtin "object.__ne__")))
    (hob : subIn K (.ref C) (.type "object") = some true) (hs : findIn K (.ref C) "__eq__" = some (some (.ref f))) (hf : isFn K (.ref f) = true)
    (h : wpAny (model prog w) A.in1 (call (.ref f) [.ref x, b]) (fun v s' => ∃ k, v = .bool k ∧ Q (.bool (!k)) s') E s) : wpAny (model prog w) A (richCompare .NotEq (.ref x) b) Q E s := by
  have chk : ∀ {Q : Unit → Shared → Prop} {A : Around} {E : Value → Shared → Prop}, Q () s → wpAny (model prog w) A (checkBuiltinCall "object.__ne__" ⟨[.ref x, b], []⟩) Q E s := fun hq => by
    have ha : argsOk "object.__ne__" ⟨[.ref x, b], []⟩ := F.cmpArgs_ne _ _
    simp only [checkBuiltinCall, F.cmpKind_ne, F.cmpSplit_ne]
    refine wpAny_bind ?_
    · unfold isInstance
      refine wpAny_bind (I.type.here ?_)
      refine (looks_subIn X hob).here ?_
      rw [if_neg (by simp)]
      cases hsig : Manifest.signature? "object.__ne__" with
      | none => exact wpAny_pure hq
      | some sig =>
        simp only [argsOk, hsig] at ha
        have h2 : Bind.checkArgs "object.__ne__" sig ⟨[.ref x, b], []⟩ = pure () := ha
        show wpAny _ _ (Bind.checkArgs "object.__ne__" sig ⟨[.ref x, b], []⟩) _ _ _
        rw [h2]
        exact wpAny_pure hq
  have body : wpAny (model prog w) A.in1 (Builtin.«object.__ne__» ⟨[.ref x, b], []⟩) (fun fin s' => ∃ v, fin = .done (.ret v) ∧ ∃ k, v = .bool (!k) ∧ Q (.bool (!k)) s') E s := by
    unfold Builtin.«object.__ne__»
    repeat (first
      | with_reducible refine wpAny_cRoomFor (show A.in1.units < cLine from hu) ?_
      | (refine wpAny_bind (m := callSpecialIfBound? (.ref x) (PySem.Str.ofString "__eq__") [b])
          (ifBound_K X I hs hf (wpAny_mono h (fun r s' hr => by
            obtain ⟨k, rfl, hq⟩ := hr
            have hq' : ∃ v, Fin.done (Flow.ret (Value.bool !k)) = .done (.ret v) ∧ ∃ k, v = Value.bool !k ∧ Q (Value.bool !k) s' := ⟨_, rfl, k, rfl, hq⟩
            repeat (first | exact hq' | exact wpAny_pure hq' | exact wpAny_truthy_bool hq' | (refine wpAny_bind (m := truthy (.bool _)) (wpAny_truthy_bool ?_)) | wp_step)) fun _ _ e => e)))
      | wp_step)
  have one : wpAny (model prog w) A (tryCompare (.ref x) "__ne__" b) (fun r s' => ∃ k, r = some (.bool (!k)) ∧ Q (.bool (!k)) s') E s := by
    have cl : wpAny (model prog w) A (call (.builtin "object.__ne__") [.ref x, b]) (fun v s' => ∃ k, v = .bool (!k) ∧ Q (.bool (!k)) s') E s := by
      refine wpAny_call (codeAny_call_builtin F.cmp_object.ne.plain F.cmpEntry_ne (chk (wpAny_mono body (fun fin s' hq => ?_) fun _ _ e => e)))
      obtain ⟨v, rfl, k, rfl, hq⟩ := hq
      exact ⟨k, rfl, hq⟩
    unfold tryCompare
    simp only [callSpecialIfBound?, bindSpecialIfBound?]
    refine wpAny_bind (wpAny_holding (wpAny_bind (wpAny_bind (wpAny_bind (I.type.here ((looks_findIn X hn).here ?_))))))
    simp only [F.cmp_object.ne.bind]
    refine wpAny_bind (wpAny_askSetting (wpAny_ite ?_))
    have fin : wpAny (model prog w) A (call (.builtin "object.__ne__") ([.ref x] ++ [b]) >>= fun v => pure (some v)) (fun r s' => ∃ k, r = some (Value.bool !k) ∧ Q (Value.bool !k) s') E s := 
      wpAny_bind (wpAny_mono cl (fun v s' h' => let ⟨k, e, q⟩ := h'; wpAny_pure ⟨k, by rw [e], q⟩) fun _ _ h' => h')
    have fin2 := wpAny_mono (E' := E) fin (Q' := fun r s' => wpAny (model prog w) A (match r with | some .notImplemented | none => pure none | some v => pure (some v)) (fun r s' => ∃ k, r = some (Value.bool !k) ∧ Q (Value.bool !k) s') E s') (fun r s' h' => by
      obtain ⟨k, rfl, q⟩ := h'
      exact wpAny_pure ⟨k, rfl, q⟩) fun _ _ h' => h'
    split
    · exact wpAny_bind (wpAny_pure (wpAny_pure fin2))
    · exact wpAny_tryCatch (wpAny_bind (wpAny_pure (wpAny_pure fin2)))
  unfold richCompare
  simp only [oneThing_ref]
  refine wpAny_holding (wpAny_bind (wpAny_cRoomFor (Nat.lt_of_succ_lt hu) ?_))
  refine wpAny_bind (I.type.here (wpAny_bind (hb.here ?_)))
  rw [show (Value.ref C != Value.ref C) = false from by simp]
  simp only [Bool.false_eq_true, if_false]
  refine wpAny_bind (wpAny_pure ?_)
  simp only [Bool.false_eq_true, if_false]
  refine wpAny_bind (wpAny_mono one (fun v s' hv => ?_) fun _ _ e => e)
  obtain ⟨k, rfl, hq⟩ := hv
  first | exact wpAny_pure hq | exact wpAny_pure (wpAny_pure hq)
end
section
variable {X : Cx} {CX : CXT} {k j : Nat} {C : Addr} {m : Str} {sp : Sp} {E : XK}
/-- o != y, both of the own class -/
theorem op_neO (c : Mt X.prog X.w X.K X.mg X.base CX k C "__eq__" sp) (hr : Room j X.A) (hk : k + 1 ≤ j) (hx : Passes CX X E) (hn : PySem.W.findIn X.K (.ref C) "__ne__" = some (some (.builtin "object.__ne__"))) (hob : PySem.W.subIn X.K (.ref C) (.type "object") = some true) :
    OpR X (compareOp .NotEq) (fun x y H Q => (∃ b dy gs, y = .ref b ∧ H b = some (.ins C dy gs)) ∧ InC C sp E x [y] H fun v H' => ∃ b, v = .bl b ∧ Q (.bl (!b)) H') := by
  intro pins s σ H x y v u Q I rx ry hq
  obtain ⟨f, fd, ps, cl, me, F, b⟩ := c.ex
  obtain ⟨⟨b', dy, gs, rfl, hb⟩, a, dx, fs, rfl, ha, h⟩ := hq
  cases rx
  cases ry
  obtain ⟨mA, J, _⟩ := ins_get I.hok ha
  obtain ⟨od, J, _⟩ := J.look
  obtain ⟨mB, J', _⟩ := ins_get I.hok hb
  obtain ⟨od', J', _⟩ := J'.look
  have hu : X.A.units + 1 < cLine := by have := hr.units; omega
  refine ne_raw hu I.kIn J J'.type hn hob me.at_ me.fn ?_
  refine thn (run_at F (hr.mono hk).in1 rfl b hx I (vs := [.ref a, .ref b']) (.cons rfl (.cons rfl .nil)) h) fun r s1 ⟨z, H1, I1, rz, b'', e, q⟩ => ?_
  subst e
  cases rz
  exact ⟨b'', rfl, .bl (!b''), H1, I1, rfl, q⟩
end
end Mw
/-! WB: BadEntry(at) -/
namespace Mw
open PySem PySem.Spec PyProof.Rows L2
abbrev aBE (K : PySem.W.Frag) : Addr := He.ga K "BadEntry"
/-- BadEntry(e) -/
def tBE (K : PySem.W.Frag) (te : TE) : L2.St → Hp → XK → Prop := fun σ H Q => te σ H fun v H1 => ∃ i, v = .int i ∧ ∀ d H2, H1 d = none → Same H1 H2 → H2 d = some (.xd [("at", .int i)]) → Q (.ref (aBE K)) (some d) H2
/-- what __init__ does -/
def spBEI (K : PySem.W.Frag) : Sp := fun vs H Q _ => ∃ (a : Addr) (i : Int), vs = [.ref a, .int i] ∧ H a = some (exo a (aBE K) none) ∧ ∀ d, H d = none → d ≠ a → Q .non (upd (upd H d (exd d [("at", .int i)])) a (exo a (aBE K) (some d)))
/-- ValueError.__init__ bound to the exception at a is called -/
theorem bound_init {X : Cx} {pins : List (Addr × Obj)} {σ : L2.St} {H : Hp} {s : Shared} {a C u : Addr} {us : List Value} {A : Around} {Q : Value → Shared → Prop} {E : Value → Shared → Prop} (O : OexC X.K C) (I : Inv X pins σ H s) (e : H a = some (exo a C none)) (hu : s.heap.get? u = some (PySem.W.kxs_mw "ValueError.__init__" a))
    (hl : us.length ≤ sizeLine) (h : ∀ s', Inv X pins σ H s' → Q .none s') : wpAny (model X.prog X.w) A (call (.ref u) us) Q E s := by
  obtain ⟨nm, q, N, bs, bm, sn, sub, ab, col, dd, k0, k1, k2, k3, k5, hC, hbm⟩ := O.cls
  obtain ⟨t1, ho⟩ := exo_at I.hok e
  have hCh := I.kIn _ _ hC
  obtain ⟨hp, g, d, t, os⟩ := s
  have FB := PySem.F.excBase_ValueError
  refine wpAny_call (codeAny_of_tree ?_)
  show wpAny _ A.in1 (callAny (.ref u) ⟨us, []⟩) _ _ _
  simp only [callAny]
  refine wpAny_bind (wpAny_load hu ?_)
  simp only [PySem.W.kxs_mw]
  refine PySem.W.KFB.if_so (by decide) ?_
  refine wpAny_bind (PySem.W.check_bound_init FB.toExcCallFacts hCh ho rfl ?_)
  refine wpAny_bind (wpAny_pure (wpAny_pure ?_))
  refine ⟨plainId_quiet FB.init.plain _, codeAny_builtin FB.initEntry ?_⟩
  rw [Around.under_plainId FB.init.plain _]
  refine PySem.W.exc_init_tree (cls := .ref C) (t0 := t1) (dv := none) (c2 := .none) (c3 := .none) (b4 := .bool false) ho hl fun h' k hx _ => ?_
  have J := I.write (t' := t) (x := a) (e := a) (o := exo a C none) (by rw [e]; exact True.intro) (.inl rfl) k ⟨_, hx⟩ (exo_ok hx)
  have eu : upd H a (exo a C none) = H := by
    funext b
    by_cases hb : b = a
    · rw [hb, upd_same, e]
    · rw [upd_ne hb]
  rw [eu] at J
  exact h _ J
/-- super().__init__(text) in the exception's own __init__ -/
theorem super_init {X : Cx} {pins : List (Addr × Obj)} {σ : L2.St} {H : Hp} {s : Shared} {a C f cc cda : Addr} {body : List Stmt} {oc cl ccl : Value} {od cld cdd : Option Addr} {osl csl ccs : Array (Option Value)} {fd : FuncData} {ar : Arg} {vs2 : Array Value} {tf : Tok} {p0 p1 p2 p3 p4 : Pos} {txt : Str}
    (I : Inv X pins σ H s) (O : OexC X.K C) (hmro : PySem.W.mroIn X.K C (.ref C) = some true) (hop : PySem.W.nsIn X.K cStatics "thirdparty.any" = some none) (hsup : PySem.W.ks_superIn X.K C C "__init__" = some (some (.builtin "ValueError.__init__")))
    (hve : PySem.W.subIn X.K (.ref C) (.type "ValueError") = some true) (hks : X.env.kindOf "super" = some .globalImplicit) (hkc : X.env.kindOf "__class__" = some .free) (hka : X.env.kindOf "self" = some .local) (hfu : X.env.func = some f) (hco : X.env.code = .ref cda)
    (hcl : X.env.cells.lookup ("__class__" : Str) = some cc) (hlk : X.K.lookup f = some ⟨oc, od, .func fd, osl⟩) (hp : (fd.params.posonlyargs ++ fd.params.args).head? = some ar) (har : ar.arg = "self") (hcell : X.K.lookup cc = some ⟨cl, cld, .cell (some (.ref C)), csl⟩)
    (hcode : X.K.lookup cda = some ⟨ccl, cdd, .fields vs2, ccs⟩) (hvs : vs2[2]? = some (.str "/claim/cut.py" tf)) (hfile : ((X.prog.main.file : Str) == ("/claim/cut.py" : Str)) = true) (htop : (X.prog.main.scope.names.lookup ("super" : Str)).isSome = false) (hm : X.mg "super" = none)
    (hN : X.N[0]? = some ("self" : Str)) (hσ : σ[0]? = some (some (.ref a))) (ha : H a = some (exo a C none))
    (hev : ∃ pl : Sem Bool, eval (.Call (.Attribute (.Call (.Name "super" p0) [] [] p1) "__init__" p2) [.Constant (.str txt) 0 p3] [] p4) X.env = (do
      let ov ← attributeBase (.Call (.Name "super" p0) [] [] p1) "__init__" X.env (eval (.Call (.Name "super" p0) [] [] p1) X.env)
      standAt p2.atName
      let (f, first) ← holding [ov] (getMethod ov "__init__" pl)
      callWith p4 f first (backTo p4 (starEach [.Constant (.str txt) 0 p3] X.env)) [])) :
    PySem.wpAt (model X.prog X.w) X.A (.func body X.env) (eval (.Call (.Attribute (.Call (.Name "super" p0) [] [] p1) "__init__" p2) [.Constant (.str txt) 0 p3] [] p4) X.env) (fun _ s' => Inv X pins σ H s') X.xe s := by
  obtain ⟨nm, q, N, bs, bm, sn, sub, ab, col, dd, k0, k1, k2, k3, k5, hC, hbm⟩ := O.cls
  have hCh := I.kIn _ _ hC
  have hcls : PySem.W.clsIn X.K C = some { name := nm, bases := bs, mro := .ref C :: bm, ns := N, qualname := q, hasDict := true, slotNames := sn, subclasses := sub, abstract := ab, collection := col, hasDel := false } := by unfold PySem.W.clsIn; rw [hC] <;> rfl
  obtain ⟨t1, ho⟩ := exo_at I.hok ha
  obtain ⟨pl, hev⟩ := hev
  refine ks_wpAt_MethodCall ?_ hev
  refine ks_wpAt_super_base (env := X.env) hks hkc (by decide) hfu (I.kIn _ _ hlk) rfl hp hco (I.kIn _ _ hcode) rfl hvs hfile htop ?_
  obtain ⟨mb, h1, h2⟩ := I.mod.blt
  refine PySem.W.ks_loadName_global I.ok.kind hks (Calls.loadGlobal_builtin (by rw [I.ok.glob]; exact I.mod.glob.keeps I.bk) hm (by rw [I.ok.blt]; exact h1.keeps I.bk) ((h2 _ (by decide)).trans bt_super) ⟨rfl, ?_⟩)
  refine wpAny_loadName_free I.ok.kind hkc hcl ⟨_, I.kIn _ _ hcell, rfl⟩ ?_
  obtain ⟨m, hns, hl⟩ := I.loc
  obtain ⟨u, ru, lk⟩ := hl 0 "self" (.ref a) hN hσ (.inl hka)
  obtain rfl : u = .ref a := ru
  rw [har]
  rcases lk with ⟨_, hmu⟩ | ⟨z, _⟩
  case inr => rcases z with z | z <;> rw [hka] at z <;> cases z
  refine wpAny_loadName_local I.ok.kind hka hns hmu ?_
  refine ks_wpAny_isType_cls hCh rfl ⟨rfl, ?_⟩
  obtain ⟨hp, g, d, t, os⟩ := s
  refine ks_wpAny_call_super hCh rfl ho rfl (fun c z => by cases z) (PySem.W.looks_mroIn I.kIn hmro) (fun h' e k => ?_)
  have I2 : Inv X pins σ H ⟨h', g, d, t, os⟩ := I.kept (t' := t) k
  have ho2 := k _ _ ho
  have hIn : PySem.W.InstAt h' a { cls := .ref C, dict := none, data := .fields #[.ref t1, .none, .none, .none, .bool false, .none] } C none := ⟨ho2, rfl, rfl, trivial⟩
  have hsup' := hsup
  unfold PySem.W.ks_superIn at hsup'
  rw [hcls] at hsup'
  refine PySem.W.kxs_getMethod PySem.W.kxs_ValueError e (PySem.W.looks_opaque I2.kIn hop) (l₀ := .ref C :: bm) (fun A Q E s k q => wpAny_bind ((PySem.W.looks_clsIn I2.kIn hcls) A _ E s k (wpAny_pure q))) rfl I2.kIn hsup' (hIn.type.andThen (PySem.W.looks_subIn I2.kIn hve)) (PySem.W.ks_ne I2.kIn hIn hcls) (by decide) ?_
  have I3 : Inv X pins σ H ⟨h'.push (PySem.W.kxs_mw "ValueError.__init__" a), g, d, t + 1, os⟩ := I2.kept (t' := t + 1) fun b o e => Heap.get?_push_of_some _ e
  have hu3 : (h'.push (PySem.W.kxs_mw "ValueError.__init__" a)).get? h'.objs.size = some (PySem.W.kxs_mw "ValueError.__init__" a) := Heap.get?_push_size _ rfl
  show wpAny _ _ (callWith p4 (.ref h'.objs.size) [] (backTo p4 (starEach [.Constant (.str txt) 0 p3] X.env)) []) _ _ _
  refine PySem.W.kxs_callWith (i := "ValueError.__init__") (x := a) (by rfl) ?_
  refine Calls.evalArgs_plain ?_
  refine Calls.spliced_cons (Calls.Constant_str (k := 0) (pos := p3) (Calls.spliced_nil ⟨hu3, ?_⟩))
  exact bound_init O (I3.tok _) ha hu3 (show 1 ≤ sizeLine by decide) fun s' J => J
section
variable {P : Program} {w : World} {K : PySem.W.Frag} {mg : Str → Option Value} {base : Heap}
theorem scBE : NdefX.NScope ["self", "at", "__class__"] ["self", "at"] ["__class__"] (defScope (inClass (top 5) 0)) := NdefX.nscope_by (by decide +kernel)
theorem f_BadEntry (T : Tx P w K mg) : ∃ fd, FnOk P w K mg base CX0 1 (He.ma K (aBE K) "__init__") fd ["self", "at"] (spBEI K) ∧ Binds K fd ["self", "at"] [] := by
  have S := scBE
  have Sx := T.i_BadEntry
  have O := T.ox_BadEntry
  obtain ⟨oc, od, osl, kV, doc, pm, ct, an, cda, cc, lk, hcd, ⟨cl, cld, csl, hcell⟩, ccl, cdd, vs2, ccs, tf, hcode, hvs⟩ := Sx.fn
  have hbody : ∃ (p0 p1 p2 p3 p4 p5 q1 q2 q3 q4 : Pos) (txt : Str), (∀ env : Env, ∃ pl : Sem Bool, eval (.Call (.Attribute (.Call (.Name "super" p0) [] [] p1) "__init__" p2) [.Constant (.str txt) 0 p3] [] p4) env = (do
      let ov ← attributeBase (.Call (.Name "super" p0) [] [] p1) "__init__" env (eval (.Call (.Name "super" p0) [] [] p1) env)
      standAt p2.atName
      let (f, first) ← holding [ov] (getMethod ov "__init__" pl)
      callWith p4 f first (backTo p4 (starEach [.Constant (.str txt) 0 p3] env)) [])) ∧ (∀ env : Env, swapsWith (.Call (.Attribute (.Call (.Name "super" p0) [] [] p1) "__init__" p2) [.Constant (.str txt) 0 p3] [] p4) none p5.line env = pure false) ∧ (∀ env : Env, swapsWith (.Name "at" q3) (some (.Attribute (.Name "self" q1) "at" q2)) q4.line env = pure false) ∧ defBody (inClass (top 5) 0) = [.Expr (.Call (.Attribute (.Call (.Name "super" p0) [] [] p1) "__init__" p2) [.Constant (.str txt) 0 p3] [] p4) p5, .Assign [.Attribute (.Name "self" q1) "at" q2] (.Name "at" q3) q4] := ⟨⟨17, 8, 17, 13⟩, ⟨17, 8, 17, 15⟩, ⟨17, 8, 17, 24⟩, ⟨17, 25, 17, 57⟩, ⟨17, 8, 17, 58⟩, ⟨17, 8, 17, 58⟩, ⟨18, 8, 18, 12⟩, ⟨18, 8, 18, 15⟩, ⟨18, 18, 18, 20⟩, ⟨18, 8, 18, 20⟩, "What is no entry of a speller.", fun env => ⟨_, rfl⟩, fun env => rfl, fun env => rfl, rfl⟩
  have hpar : ∃ ar : Arg, ((defArgs (inClass (top 5) 0)).posonlyargs ++ (defArgs (inClass (top 5) 0)).args).head? = some ar ∧ ar.arg = "self" := ⟨_, rfl, rfl⟩
  have hks : (defScope (inClass (top 5) 0)).names.lookup ("super" : Str) = some .globalImplicit := by decide +kernel
  have hkc : (defScope (inClass (top 5) 0)).names.lookup ("__class__" : Str) = some .free := by decide +kernel
  have hka : (defScope (inClass (top 5) 0)).names.lookup ("self" : Str) = some .local := by decide +kernel
  have hkt : (defScope (inClass (top 5) 0)).names.lookup ("at" : Str) = some .local := by decide +kernel
  have hbind : ∀ us : List Value, us.length = 2 → bindArgs (PySem.W.fnX "__init__" "BadEntry.__init__" (defArgs (inClass (top 5) 0)) (defBody (inClass (top 5) 0)) (defScope (inClass (top 5) 0)) [("__class__", cc)] .none kV doc pm an (.ref cda) ct) ⟨us, []⟩ = pure ((["self", "at"] : List Str).zip us) := fun us hl => match us, hl with | [_, _], _ => rfl
  refine ⟨_, ⟨fun vs H Q E h => ?_, fun A outer s H args us vs Q E hr e0 hb r hsp => ?_⟩, Binds.all hbind⟩
  · obtain ⟨a, i, rfl, _⟩ := h
    rfl
  generalize defBody (inClass (top 5) 0) = body at *
  generalize defScope (inClass (top 5) 0) = scope at *
  generalize defArgs (inClass (top 5) 0) = params at *
  clear hbind
  obtain ⟨a, i, rfl, ha, k⟩ := hsp
  obtain ⟨p0, p1, p2, p3, p4, p5, q1, q2, q3, q4, txt, hev, hsw1, hsw2, hbody⟩ := hbody
  obtain ⟨ar, har, ear⟩ := hpar
  have KX : K.In s.heap := e0.mod.kin.keeps fun b o e => (e0.bs b o e).1
  have lim : s.heap.NoLimit := e0.mod.nolimit.keeps fun b o e => (e0.bs b o e).1
  have hcc : s.heap.get? cc = some ⟨cl, cld, .cell (some (.ref (aBE K))), csl⟩ ∧ H cc = none := e0.bs _ _ (e0.mod.kin _ _ hcell)
  have C : NdefX.CellsAt [("__class__", cc)] ["__class__"] [none] s.heap H := by
    have key : ∀ {y : Str} {c : Addr}, List.lookup y [(("__class__" : Str), cc)] = some c → y = "__class__" ∧ c = cc := fun {y c} e => by
      rw [List.lookup_cons] at e
      split at e
      · rename_i z
        exact ⟨eq_of_beq z, (Option.some.inj e).symm⟩
      · cases e
    refine ⟨rfl, fun y c e => ?_, fun x y c e1 e2 => ?_, fun j y e => ?_⟩
    · obtain ⟨_, rfl⟩ := key e
      exact ⟨hcc.2, _, _, hcc.1, rfl⟩
    · rw [(key e1).1, (key e2).1]
    · cases j with
      | zero =>
        obtain rfl := Option.some.inj (show some ("__class__" : Str) = some y from e)
        exact ⟨cc, by rw [List.lookup_cons, beq_self_eq_true], fun v z => by cases z⟩
      | succ j => cases e
  obtain ⟨F, eF⟩ : ∃ F : NdefX.NF, F = ⟨"__init__", "BadEntry.__init__", params, body, scope, [("__class__", cc)], cda⟩ := ⟨_, rfl⟩
  refine ks_codeAny_call_defAt (o := ⟨oc, od, .func (PySem.W.fnX "__init__" "BadEntry.__init__" params body scope [("__class__", cc)] .none kV doc pm an (.ref cda) ct), osl⟩) (binds := (["self", "at"] : List Str).zip us) hr.depth (KX _ _ lk) rfl lim (PySem.W.codeRec_of KX hcd) rfl hb S.nocell (fun ⟨n, _⟩ hy => S.par n (List.of_mem_zip hy).1) (fun h₁ hns kp => ?_) S.co S.gen S.kind
  have I : Inv (NdefX.ncx CX0 P w K mg base ["self", "at", "__class__"] F (He.ma K (aBE K) "__init__") A outer s H E) [] (NdefX.startF ["self", "at", "__class__"] [.ref a, .int i] [none]) H { s with heap := h₁, toks := s.toks + ((["self", "at"] : List Str).zip us).length } := by
    rw [eF]
    exact NdefX.inv_startN S hr.hd e0 rfl r C hns kp
  have step : PySem.wpAt (model P w) (A.deeper (NdefX.envF F (He.ma K (aBE K) "__init__") s.heap.objs.size)) (.func body (NdefX.envF F (He.ma K (aBE K) "__init__") s.heap.objs.size)) (execs body (NdefX.envF F (He.ma K (aBE K) "__init__") s.heap.objs.size))
      (SP (NdefX.ncx CX0 P w K mg base ["self", "at", "__class__"] F (He.ma K (aBE K) "__init__") A outer s H E) [] { nx := fun _ H' => Q .non H', rt := Q })
      (NdefX.ncx CX0 P w K mg base ["self", "at", "__class__"] F (He.ma K (aBE K) "__init__") A outer s H E).xe { s with heap := h₁, toks := s.toks + ((["self", "at"] : List Str).zip us).length } := by
    have hex : execs body (NdefX.envF F (He.ma K (aBE K) "__init__") s.heap.objs.size) = execs [.Expr (.Call (.Attribute (.Call (.Name "super" p0) [] [] p1) "__init__" p2) [.Constant (.str txt) 0 p3] [] p4) p5, .Assign [.Attribute (.Name "self" q1) "at" q2] (.Name "at" q3) q4] (NdefX.envF F (He.ma K (aBE K) "__init__") s.heap.objs.size) := by rw [hbody]
    rw [hex]
    refine ks_wpAt_execs_cons ?_
    refine ks_wpAt_Expr_any ?_ (by subst eF; unfold interactive; rw [S.kind]; rfl) (hsw1 _)
    refine ks_wpAt_mono (super_init (X := NdefX.ncx CX0 P w K mg base ["self", "at", "__class__"] F (He.ma K (aBE K) "__init__") A outer s H E) (C := aBE K) I O Sx.mro Sx.op Sx.sup Sx.ve (by subst eF; exact hks) (by subst eF; exact hkc) (by subst eF; exact hka) rfl (by subst eF; rfl) (by subst eF; show List.lookup ("__class__" : Str) [(("__class__" : Str), cc)] = some cc; rw [List.lookup_cons, beq_self_eq_true]) lk har ear hcell hcode hvs T.p_file T.p_super T.n_super rfl rfl ha (hev _)) (fun v s' J => ?_) fun _ _ z => z
    refine wpAt_of_wpAny ?_
    have ps := pss_one (ps_ost (X := NdefX.ncx CX0 P w K mg base ["self", "at", "__class__"] F (He.ma K (aBE K) "__init__") A outer s H E) (f := "at") (pos := q4) (p' := q2) (o := .Name "self" q1) (e := .Name "at" q3) (pe_var (i := 0) rfl (.inl (by subst eF; exact hka))) (pe_var (i := 1) rfl (.inl (by subst eF; exact hkt))) (hsw2 _))
    refine ps.run [] s' _ H _ J ⟨_, rfl, _, rfl, a, aBE K, rfl, O, T.xa_BadEntry, .inl ⟨ha, fun dx n ne => k dx n ne⟩⟩
  subst eF
  refine ks_wpAt_mono step (fun fl s' hs => ?_) fun _ _ z => z
  have fin : ∀ {σ' : L2.St} {H' : Hp} {v : V} {u : Value}, Inv (NdefX.ncx CX0 P w K mg base ["self", "at", "__class__"] ⟨"__init__", "BadEntry.__init__", params, body, scope, [("__class__", cc)], cda⟩ (He.ma K (aBE K) "__init__") A outer s H E) [] σ' H' s' → L2.RelV v u → Q v H' → CE outer P w H s Q u s' :=
    fun J rv q => ⟨_, _, J.os, J.bare, J.base, J.hok, rv, q⟩
  cases fl with
  | ret u =>
    obtain ⟨v, σ', H', J, rv, q⟩ := hs
    exact fin J rv q
  | next =>
    obtain ⟨σ', H', J, q⟩ := hs
    exact fin (v := V.non) (u := Value.none) J rfl q
  | brk =>
    obtain ⟨_, _, _, q⟩ := hs
    exact False.elim q
  | cont =>
    obtain ⟨_, _, _, q⟩ := hs
    exact False.elim q
end
theorem pe_weak {X : Cx} {e : Expr} {te : TE} (he : PE X e te) : PE X e (fun σ H Q => ∃ R : VK, te σ H R ∧ ∀ v H1, R v H1 → Q v H1) :=
  ⟨fun pins s σ H Q I ⟨R, h, m⟩ => thn (he.run pins s σ H R I h) fun u s1 ⟨v, H1, I1, r, q⟩ => ⟨v, H1, I1, r, m _ _ q⟩⟩
theorem pmk_BE {X : Cx} {j : Nat} {e : Expr} {te : TE} {p pos : Pos} (T : Tx X.prog X.w X.K X.mg) (hr : Room j X.A) (hk : 3 ≤ j) (hg : Gl X "BadEntry") (he : PE X e te)
    (hs : starEach [e] X.env = (false, eval e X.env) :: starEach [] X.env := by rfl) : PMk X (.Call (.Name "BadEntry" p) [e] [] pos) (tBE X.K te) := by
  obtain ⟨fd, F1, hb⟩ := f_BadEntry (base := X.base) T
  intro pins s σ H Q I h
  refine pmk_oex T.ox_BadEntry T.i_BadEntry.ii T.i_BadEntry.ti F1 (hr.mono (by omega)) hb .nil pass0 hg T.g_BadEntry (pa_cons (pe_weak he) pa_nil hs) (by decide) hs (by rfl) pins s σ H Q I ⟨_, h, fun v H1 q => ?_⟩
  obtain ⟨i, rfl, q⟩ := q
  refine ⟨(show 1 ≤ 1000 by decide), fun a hn => ⟨a, i, rfl, upd_same, fun d hd hda => ⟨rfl, d, [("at", .int i)], upd_same, by rw [upd_ne hda]; exact upd_same, by rw [upd_ne hda] at hd; exact hd, ?_⟩⟩⟩
  rw [upd_ne hda] at hd
  refine q d _ hd (fun b o e => ?_) upd_same
  have hbd : b ≠ d := ne_of_none e hd
  have hba : b ≠ a := ne_of_none e hn
  rw [upd_ne hbd, del_ne hba, upd_ne hba, upd_ne hbd, upd_ne hba]
  exact e
end Mw
/-! W8: spellers -/
namespace Mw
open PySem PySem.Spec PyProof.Rows L2
/-! ### entries -/
abbrev Ent := List Nat × Int
structure EntOk (e : Ent) : Prop where
  az : ∀ c ∈ e.1, 97 ≤ c ∧ c ≤ 122
  l1 : 1 ≤ e.1.length
  l5 : e.1.length ≤ 5
  o0 : 0 ≤ e.2
  o9 : e.2 ≤ 999
theorem EntOk.azl {e : Ent} (h : EntOk e) : AzL e.1 := ⟨h.az, Nat.le_trans h.l5 (by decide)⟩
structure EsOk (es : List Ent) : Prop where
  len : es.length ≤ 4
  all : ∀ e ∈ es, EntOk e
  nd : (es.map Prod.fst).Nodup
def EntAt (H : Hp) (v : V) (e : Ent) : Prop := ∃ a, v = .ref a ∧ H a = some (.tup [.str (tx e.1), .int e.2])
theorem EntAt.mono {H H' : Hp} {v : V} {e : Ent} (h : EntAt H v e) (s : Same H H') : EntAt H' v e := by
  obtain ⟨a, h1, h2⟩ := h
  exact ⟨a, h1, s _ _ h2⟩
theorem ents_mono {H H' : Hp} {vs : List V} {es : List Ent} (h : Paired (EntAt H) vs es) (s : Same H H') : Paired (EntAt H') vs es := Paired.mapP h fun _ _ h => h.mono s
abbrev wordV (e : Ent) : V := .str (tx e.1)
theorem words_flat (es : List Ent) : (es.map wordV).all flatV = true := by
  induction es with
  | nil => rfl
  | cons e r ih => rw [List.map_cons, List.all_cons, ih]; rfl
theorem eqV_str (a b : List Nat) : eqV (.str (tx a)) (.str (tx b)) = decide (a = b) := by
  show (tx a == tx b) = _
  rw [SX.S_beq_eq]
theorem any_word (es : List Ent) (x : List Nat) : (es.map wordV).any (eqV · (.str (tx x))) = decide (x ∈ es.map Prod.fst) := by
  induction es with
  | nil => rfl
  | cons e r ih =>
    rw [List.map_cons, List.any_cons, ih, eqV_str, ← Bool.decide_or]
    exact decide_eq_decide.mpr (by rw [List.map_cons, List.mem_cons, eq_comm])
theorem inV_word (es : List Ent) (x : List Nat) : inV (.str (tx x)) (es.map wordV) = decide (x ∈ es.map Prod.fst) := any_word es x
/-! ### comprehensions whose elements are new tuples -/
/-- all but lists are kept -/
def SameN (H H' : Hp) : Prop := ∀ a o, H a = some o → (∀ l, o ≠ .lst l) → H' a = some o
theorem Same.n {H H' : Hp} (s : Same H H') : SameN H H' := fun a o h _ => s a o h
theorem sameN_put {H : Hp} {D : Addr} {l m : List V} (h : H D = some (.lst l)) : SameN H (upd H D (.lst m)) := fun a o e n => by
  by_cases q : a = D
  · rw [q, h] at e
    exact absurd (Option.some.inj e).symm (n l)
  · rw [upd_ne q]
    exact e
theorem EntAt.monoN {H H' : Hp} {v : V} {e : Ent} (h : EntAt H v e) (s : SameN H H') : EntAt H' v e := by
  obtain ⟨a, h1, h2⟩ := h
  exact ⟨a, h1, s _ _ h2 (fun l z => by cases z)⟩
theorem lc_rel {α : Type} {J : It} {G : Hp → Prop} {Y : Nat → Hp → V → Hp → Prop} (xs : List α) (R : Hp → V → α → Prop) (mono : ∀ {H H' v a}, R H v a → SameN H H' → R H' v a) (wk : Walk J xs.length G Y) {g : TG} {te : TE} {vs : List Nat} {σ : L2.St} {H1 : Hp} {D : Addr} {Qd : Hp → Prop} (hz : xs.length ≤ 100000)
    (hD : H1 D = none) (hG : ∀ H, Same H1 H → G H)
    (hs : ∀ i a x H H' (Qe : V → Hp → Prop), xs[i]? = some a → Same H1 H → Y i H x H' → (∀ y H4, Same H H4 → R H4 y a → Qe y H4) → g x (wipe σ vs) H' fun σ2 H2 => wipe σ2 vs = wipe σ vs ∧ te σ2 H2 Qe)
    (hd : ∀ H acc, Same H1 H → H D = some (.lst acc) → Paired (R H) acc xs → Qd H) :
    ∃ W : Nat → Nat → Hp → Prop, (∃ m, W 0 m (upd H1 D (.lst []))) ∧ ∀ i m H, W i m H →
      (J.stop i H ∧ Qd H) ∨ (J.go i H ∧ ∃ Nx : Hp → Prop, (∀ H', Nx H' → ∃ m', m' < m ∧ W (i + 1) m' H') ∧ ∀ x H', J.yld i H x H' → g x (wipe σ vs) H' fun σ2 H2 => wipe σ2 vs = wipe σ vs ∧ tYes σ2 H2 fun b H3 =>
        if b = true then te σ2 H3 fun y H4 => ∃ acc, H4 D = some (.lst acc) ∧ acc.length < sizeLine ∧ Nx (upd H4 D (.lst (acc ++ [y]))) else Nx H3) := by
  refine lc_it wk (fun i H => Same H1 H ∧ ∃ acc, H D = some (.lst acc) ∧ Paired (R H) acc (xs.take i)) ⟨Same.new hD, [], upd_same, .nil⟩ (fun i H _ p => hG H p.1) (fun i x H H' hi p y => ?_) (fun H p => ?_)
  · obtain ⟨p1, acc, p2, p3⟩ := p
    obtain ⟨a, ha⟩ : ∃ a, xs[i]? = some a := ⟨xs[i], by simp [hi]⟩
    refine hs i a x H H' _ ha p1 y fun y H4 s4 r => ?_
    have h4 := s4 _ _ p2
    have hl : acc.length ≤ xs.length := by rw [p3.length, List.length_take]; omega
    refine ⟨acc, h4, small_line (Nat.le_trans hl hz), fun b o eb => ?_, acc ++ [y], upd_same, ?_⟩
    · rw [upd_ne (ne_of_none eb hD)]
      exact s4 _ _ (p1 _ _ eb)
    · rw [take_snoc ha]
      exact Paired.snoc (Paired.mapP p3 fun _ _ h => mono (mono h (Same.n s4)) (sameN_put h4)) (mono r (sameN_put h4))
  · obtain ⟨p1, acc, p2, p3⟩ := p
    rw [List.take_length] at p3
    exact hd H acc p1 p2 p3
/-! ### rankings, plainly -/
noncomputable def tot (p : Sl) (x : List Nat) (e : Ent) : Int := dist p e.1 x + e.2
/-- (total, place, word) of each entry -/
abbrev Trip := Int × Int × List Nat
noncomputable def trips (p : Sl) (x : List Nat) (es : List Ent) : List Trip := (List.range es.length).map fun (i : Nat) => match es[i]? with
  | some e => (tot p x e, (i : Int), e.1)
  | none => (0, 0, [])
def ltT (a b : Trip) : Prop := a.1 < b.1 ∨ (a.1 = b.1 ∧ a.2.1 < b.2.1)
structure RankIs (p : Sl) (x : List Nat) (es : List Ent) (r : List (Int × List Nat)) : Prop where
  ex : ∃ ts : List Trip, ts.Perm (trips p x es) ∧ ts.Pairwise ltT ∧ r = ts.map fun t => (t.1, t.2.2)
theorem sorted_uniq : ∀ {l m : List Trip}, l.Pairwise ltT → m.Pairwise ltT → l.Perm m → l = m
  | [], m, _, _, h => (List.Perm.eq_nil h.symm).symm
  | x :: l, [], _, _, h => absurd h.length_eq (by simp)
  | x :: l, y :: m, hl, hm, h => by
    have e : x = y := by
      rcases List.mem_cons.mp (h.mem_iff.mp (List.mem_cons_self (a := x) (l := l))) with e | hx
      · exact e
      · rcases List.mem_cons.mp (h.mem_iff.mpr (List.mem_cons_self (a := y) (l := m))) with e | hy
        · exact e.symm
        · have h1 := (List.pairwise_cons.mp hm).1 x hx
          have h2 := (List.pairwise_cons.mp hl).1 y hy
          unfold ltT at h1 h2
          omega
    subst e
    rw [sorted_uniq (List.pairwise_cons.mp hl).2 (List.pairwise_cons.mp hm).2 h.cons_inv]
theorem RankIs.unique {p : Sl} {x : List Nat} {es : List Ent} {r r' : List (Int × List Nat)} (a : RankIs p x es r) (b : RankIs p x es r') : r = r' := by
  obtain ⟨ts, h1, h2, rfl⟩ := a.ex
  obtain ⟨ts', h1', h2', rfl⟩ := b.ex
  rw [sorted_uniq h2 h2' (h1.trans h1'.symm)]
/-- the word that is meant: the first of those of the least total -/
def MeantIs (p : Sl) (x : List Nat) (es : List Ent) (o : Option (List Nat)) : Prop := (es = [] ∧ o = none) ∨ ∃ (i : Nat) (e : Ent), es[i]? = some e ∧ o = some e.1 ∧ (∀ (j : Nat) (f : Ent), es[j]? = some f → tot p x e ≤ tot p x f) ∧ ∀ (j : Nat) (f : Ent), j < i → es[j]? = some f → tot p x e < tot p x f
theorem MeantIs.unique {p : Sl} {x : List Nat} {es : List Ent} {o o' : Option (List Nat)} (a : MeantIs p x es o) (b : MeantIs p x es o') : o = o' := by
  rcases a with ⟨h, rfl⟩ | ⟨i, e, h1, rfl, h2, h3⟩
  · rcases b with ⟨_, rfl⟩ | ⟨i', e', h1', _⟩
    · rfl
    · rw [h] at h1'
      simp at h1'
  · rcases b with ⟨h, _⟩ | ⟨i', e', h1', rfl, h2', h3'⟩
    · rw [h] at h1
      simp at h1
    · have : i = i' := by
        rcases Nat.lt_trichotomy i i' with q | q | q
        · have a1 := h3' _ _ q h1
          have a2 := h2 _ _ h1'
          omega
        · exact q
        · have a1 := h3 _ _ q h1'
          have a2 := h2' _ _ h1
          omega
      subst this
      rw [h1] at h1'
      rw [Option.some.inj h1']
theorem mem_trips {p : Sl} {x : List Nat} {es : List Ent} {t : Trip} : t ∈ trips p x es ↔ ∃ (i : Nat) (e : Ent), es[i]? = some e ∧ t = (tot p x e, (i : Int), e.1) := by
  unfold trips
  rw [List.mem_map]
  constructor
  · rintro ⟨i, hi, rfl⟩
    rw [List.mem_range] at hi
    have he : es[i]? = some es[i] := by simp [hi]
    exact ⟨i, es[i], he, by rw [he]⟩
  · rintro ⟨i, e, he, rfl⟩
    exact ⟨i, List.mem_range.mpr (List.getElem?_eq_some_iff.mp he).1, by rw [he]⟩
theorem RankIs.meant {p : Sl} {x : List Nat} {es : List Ent} {r : List (Int × List Nat)} (a : RankIs p x es r) : MeantIs p x es (r.head?.map Prod.snd) := by
  obtain ⟨ts, h1, h2, rfl⟩ := a.ex
  cases ts with
  | nil =>
    refine .inl ⟨?_, rfl⟩
    have := h1.length_eq
    unfold trips at this
    rw [List.length_map, List.length_range] at this
    exact List.length_eq_zero_iff.mp this.symm
  | cons t r =>
    obtain ⟨i, e, he, rfl⟩ := mem_trips.mp (h1.mem_iff.mp (List.mem_cons_self ..))
    have le : ∀ (j : Nat) (f : Ent), es[j]? = some f → j ≠ i → ltT (tot p x e, (i : Int), e.1) (tot p x f, (j : Int), f.1) := fun j f hf ne => by
      have hm := h1.mem_iff.mpr (mem_trips.mpr ⟨j, f, hf, rfl⟩)
      rcases List.mem_cons.mp hm with q | q
      · have q2 : (j : Int) = i := congrArg (fun t : Trip => t.2.1) q
        exact absurd (by omega) ne
      · exact (List.pairwise_cons.mp h2).1 _ q
    refine .inr ⟨i, e, he, rfl, fun j f hf => ?_, fun j f hj hf => ?_⟩
    · by_cases q : j = i
      · subst q
        rw [he] at hf
        rw [Option.some.inj hf]
        exact Int.le_refl _
      · have := le j f hf q
        unfold ltT at this
        omega
    · have := le j f hf (by omega)
      unfold ltT at this
      dsimp only at this
      omega
theorem RankIs.nil_iff {p : Sl} {x : List Nat} {es : List Ent} {r : List (Int × List Nat)} (a : RankIs p x es r) : r.length = es.length := by
  obtain ⟨ts, h1, h2, rfl⟩ := a.ex
  rw [List.length_map, h1.length_eq]
  unfold trips
  rw [List.length_map, List.length_range]
section
variable {P : Program} {w : World} {K : PySem.W.Frag} {mg : Str → Option Value} {base : Heap}
def N_is_own : List Str := ["thing"]
theorem sc_is_own : FnScope N_is_own ["thing"] (defScope (top 27)) := ⟨rfl, rfl, rfl, by decide +kernel, rfl, by decide +kernel, by decide +kernel⟩
def spIsOwn : Sp := fun vs H Q _ => ∃ i : Int, vs = [.int i] ∧ 0 ≤ i ∧ i ≤ 999 ∧ Q (.bl true) H
theorem c_is_own (T : Tx P w K mg) : Cl P w K mg base CX0 2 "is_own" spIsOwn := by
  have S := sc_is_own
  have c_is_integer := @c_is_integer P w K mg base T
  refine mkCl0 T.d_is_own T.gf_is_own S (fun _ _ _ _ _ _ us hl => match us, hl with | [_], _ => rfl) (fun vs H Q E h => ?_) (fun cdv A outer s H vs Q E hr h => ?_)
  · obtain ⟨i, rfl, _⟩ := h
    rfl
  · obtain ⟨x, rfl, h1, h2, k⟩ := h
    refine ⟨_, (pss_one (ps_ret (pe_and (pe_f c_is_integer hr (by decide) rfl pass0 (pa_cons (pv 0) pa_nil)) (pe_one (pe_chain op_le op_le pe_int (pv 0) (C8.pe_gc rfl T.k_DEAREST_OWN)))))), ?_⟩
    refine ⟨_, rfl, x, rfl, _, rfl, iteT ?_⟩
    refine ⟨_, rfl, _, _, rfl, rfl, _, rfl, ?_⟩
    rw [decide_eq_true h1]
    refine iteT ⟨_, _, rfl, rfl, ?_⟩
    show Q (V.bl (decide (x ≤ 999))) _
    rw [decide_eq_true h2]
    exact k
def N_is_entry : List Str := ["thing"]
theorem sc_is_entry : FnScope N_is_entry ["thing"] (defScope (top 28)) := ⟨rfl, rfl, rfl, by decide +kernel, rfl, by decide +kernel, by decide +kernel⟩
def spIsEntry : Sp := fun vs H Q _ => ∃ (v : V) (e : Ent), vs = [v] ∧ EntAt H v e ∧ EntOk e ∧ ∀ H', Same H H' → Q (.bl true) H'
theorem c_is_entry (T : Tx P w K mg) : Cl P w K mg base CX0 3 "is_entry" spIsEntry := by
  have S := sc_is_entry
  have c_is_word := @c_is_word P w K mg base T
  have c_is_own := @c_is_own P w K mg base T
  refine mkCl0 T.d_is_entry T.gf_is_entry S (fun _ _ _ _ _ _ us hl => match us, hl with | [_], _ => rfl) (fun vs H Q E h => ?_) (fun cdv A outer s H vs Q E hr h => ?_)
  · obtain ⟨v, e, rfl, _⟩ := h
    rfl
  · obtain ⟨v, e, rfl, ⟨a, rfl, ha⟩, ok, k⟩ := h
    refine ⟨_, (pss_one (ps_ret (pe_and (pe_callB call_isi rfl T.n_isinstance bt_isinstance (pa_cons (pv 0) (pa_cons (pe_bltn (v := .ty "tuple") rfl T.n_tuple bt_tuple rfl) pa_nil))) (pe_and (pe_cmpR op_eq (pe_callB call_len_seq rfl T.n_len bt_len (pa_cons (pv 0) pa_nil)) pe_int (nomark _)) (pe_and (pe_f c_is_word hr (by decide) rfl pass0 (pa_cons (pe_ix ix_tup (pv 0) pe_int (fun _ _ => rfl)) pa_nil)) (pe_one (pe_f c_is_own hr (by decide) rfl pass0 (pa_cons (pe_ix ix_tup (pv 0) pe_int (fun _ _ => rfl)) pa_nil)))))))), ?_⟩
    refine ⟨_, rfl, _, _, _, _, true, rfl, .ty _, .base (.tup ha), kit_ty (by decide +kernel), _, rfl, iteT ?_⟩
    refine ⟨_, rfl, a, _, rfl, .inr (SqT.of ha), rfl, _, rfl, iteT ?_⟩
    refine ⟨_, rfl, a, _, _, _, rfl, rfl, SqT.of ha, atI_nat (j := 0) rfl, tx e.1, rfl, ok.azl.az, by rw [tx_len]; exact ok.l1, by rw [tx_len]; exact ok.l5, fun H1 s1 => ⟨_, rfl, iteT ?_⟩⟩
    exact ⟨_, rfl, a, _, _, _, rfl, rfl, SqT.of (s1 _ _ ha), atI_nat (j := 1) rfl, e.2, rfl, ok.o0, ok.o9, k _ s1⟩
def N_need_entries : List Str := ["entries", "words", "at", "entry"]
theorem sc_need_entries : FnScope N_need_entries ["entries"] (defScope (top 29)) := ⟨rfl, rfl, rfl, by decide +kernel, rfl, by decide +kernel, by decide +kernel⟩
/-- raises BadEntry(4) where there are five -/
def spNeedEntries (K : PySem.W.Frag) : Sp := fun vs H Q E => ∃ (a : Addr) (refs : List V) (es : List Ent), vs = [.ref a] ∧ (H a = some (.lst refs) ∨ H a = some (.tup refs)) ∧ Paired (EntAt H) refs es ∧ EsOk (es.take 4) ∧ es.length ≤ 5 ∧
  (es.length ≤ 4 → ∀ H', Same H H' → Q .non H') ∧ (es.length = 5 → ∀ d H', H d = none → Same H H' → H' d = some (.xd [("at", .int 4)]) → E (.ref (aBE K)) (some d) H')
theorem c_need_entries (T : Tx P w K mg) : Cl P w K mg base (L2.CX P w) 4 "need_entries" (spNeedEntries K) := by
  have S := sc_need_entries
  have c_is_entry := @c_is_entry P w K mg base T
  refine mkCl T.d_need_entries T.gf_need_entries S (fun _ _ _ _ _ _ us hl => match us, hl with | [_], _ => rfl) (fun vs H Q E h => ?_) (fun cdv A outer s H vs Q E hr h => ?_)
  · obtain ⟨v, e, _, rfl, _⟩ := h
    rfl
  · obtain ⟨a, refs, es, rfl, ha, pp, ok, l5, kq, ke⟩ := h
    have tk : Takes (cxOf (L2.CX P w) P w K mg base N_need_entries "need_entries" (defScope (top 29)) (He.ga K "need_entries") cdv A outer s H E) (fun cls d _ H => E cls d H) := takes_of rfl rfl rfl rfl
    refine ⟨_, (pss_cons (ps_if (pt_not (pt_val (pe_callB call_isiT rfl T.n_isinstance bt_isinstance (pa_cons (pv 0) (pa_cons (pe_tup (pa_cons (pe_bltn (v := .ty "list") rfl T.n_list bt_list rfl) (pa_cons (pe_bltn (v := .ty "tuple") rfl T.n_tuple bt_tuple rfl) pa_nil))) pa_nil))))) pss_never pss_nil)
    (pss_cons (ps_set (i := 1) S.nd rfl (Or.inl rfl) (pe_lst pa_nil))
    (pss_one (ps_for (passes_of rfl) rfl (pi_enumA (by rfl) T.n_enumerate (pa_cons (pv 0) pa_nil)) (pg_tup rfl (pgs_cons (pg_name (i := 2) S.nd rfl (Or.inl rfl)) (pgs_cons (pg_name (i := 3) S.nd rfl (Or.inl rfl)) pgs_nil)))
    (pss_cons (ps_if (PW.pt (pw_or (pt_cmpR op_eq (pv 2) (C8.pe_gc rfl T.k_MOST_WORDS) (nomark _)) (pw_or (pt_not (pt_val (pe_f c_is_entry hr (by decide) rfl pass0 (pa_cons (pv 3) pa_nil)))) (pw_or1 (pt_cmpR op_in_seq (pe_ix ix_tup (pv 3) pe_int (fun _ _ => rfl)) (pv 1) rfl))))) (pss_one (ps_raise rfl tk (pmk_BE T hr (by decide) rfl (pv 2)))) pss_nil)
    (pss_one (ps_set (i := 1) S.nd rfl (Or.inl rfl) (pe_op op_cat (pv 1) (pe_lst (pa_cons (pe_ix ix_tup (pv 3) pe_int (fun _ _ => rfl)) pa_nil)))))))))), ?_⟩
    have ty : ∃ t, (∀ H', Same H H' → TyX K H' (.ref a) t) ∧ PySem.W.kitAny K t [.type "list", .type "tuple"] = some true := by
      rcases ha with ha | ha
      · exact ⟨_, fun _ s => .base (.lst (s _ _ ha)), kitAny_cons (b := true) (kit_ty (by decide +kernel)) (fun z => by cases z) (fun _ => rfl)⟩
      · exact ⟨_, fun _ s => .base (.tup (s _ _ ha)), kitAny_cons (b := false) (kit_ty (by decide +kernel)) (fun _ => kitAny_cons (b := true) (kit_ty (by decide +kernel)) (fun z => by cases z) fun _ => rfl) (fun z => by cases z)⟩
    obtain ⟨t, ty1, ty2⟩ := ty
    refine ⟨_, rfl, sz2, fun u hu => ?_⟩
    refine ⟨_, u, _, t, _, true, rfl, upd_same, .cons (.ty _) (.cons (.ty _)   .nil), ty1 _ (Same.new hu), ty2, _, rfl, iteF ?_⟩
    refine ⟨sz0, fun wl hwl => ?_⟩
    have s0 : Same H (upd (upd H u (.tup [.ty "list", .ty "tuple"])) wl (.lst [])) := (Same.new hu).trans (Same.new hwl)
    have el : refs.length = es.length := pp.length
    refine ⟨_, rfl, a, refs, rfl, ?_⟩
    rcases ha with ha | ha
    case' inl => refine .inl ⟨SqL.of (s0 _ _ ha), for_it (walk_enum (xs := refs)) (fun i σ H' => (∃ (wl : Addr) (b2 b3 : Option V), σ = [some (.ref a), some (.ref wl), b2, b3] ∧ H' wl = some (.lst ((es.take i).map wordV))) ∧ Same H H' ∧ i ≤ 4) ⟨⟨wl, _, _, rfl, upd_same⟩, s0, Nat.zero_le _⟩ (fun _ _ H' _ pv => SqL.of (pv.2.1 _ _ ha)) ?_ ?_⟩
    case' inr => refine .inr ⟨SqT.of (s0 _ _ ha), for_it (walk_enumT (xs := refs)) (fun i σ H' => (∃ (wl : Addr) (b2 b3 : Option V), σ = [some (.ref a), some (.ref wl), b2, b3] ∧ H' wl = some (.lst ((es.take i).map wordV))) ∧ Same H H' ∧ i ≤ 4) ⟨⟨wl, _, _, rfl, upd_same⟩, s0, Nat.zero_le _⟩ (fun _ _ H' _ pv => SqT.of (pv.2.1 _ _ ha)) ?_ ?_⟩
    case' refine_2.inl.refine_2 =>
      intro σ H1 pv
      exact kq (by have := pv.2.2; omega) _ pv.2.1
    case' refine_2.inr.refine_2 =>
      intro σ H1 pv
      exact kq (by have := pv.2.2; omega) _ pv.2.1
    all_goals
      intro i x σ1 H' H1 hi pv y
      obtain ⟨⟨wl, b2, b3, rfl, hw⟩, s1, i4⟩ := pv
      obtain ⟨T', x', y', rfl, hT, rfl, hx', hy'⟩ := y
      obtain rfl := Option.some.inj hx'
      obtain ⟨e, he, ee⟩ := paired_at pp hy'
      have s2 := s1.trans (Same.new (o := .tup [.int (i : Nat), y']) hT)
      have ee2 := ee.mono s2
      have hw2 := Same.new (o := .tup [.int (i : Nat), y']) hT _ _ hw
      refine ⟨T', _, rfl, SqT.of upd_same, rfl, _, _, rfl, _, _, rfl, rfl, ?_⟩
      refine ⟨_, rfl, rfl, _, rfl, ?_⟩
      by_cases q : i = 4
      · subst q
        refine iteT ?_
        exact ⟨_, rfl, 4, rfl, fun d H2 hd ss h2 => ke (by omega) d H2 (s2.free hd) (s2.trans ss) h2⟩
      · have i4' : i < 4 := by omega
        have het : (es.take 4)[i]? = some e := by rw [List.getElem?_take, if_pos i4']; exact he
        have hok := ok.all e (List.mem_of_getElem? het)
        refine ite2 (fun z => absurd (show i = 4 from by have := V.int.inj (of_decide_eq_true z); omega) q) (fun _ => ?_)
        refine ⟨_, rfl, y', e, rfl, ee2, hok, fun H4 s4 => ⟨_, rfl, iteF ?_⟩⟩
        obtain ⟨ya, rfl, hya⟩ := ee2
        have hya4 := s4 _ _ hya
        have hw4 := s4 _ _ hw2
        refine ⟨_, rfl, ya, _, _, _, rfl, rfl, SqT.of hya4, atI_nat (j := 0) rfl, _, rfl, wl, _, rfl, .inl (SqL.of hw4), rfl, words_flat _, _, rfl, ?_⟩
        rw [inV_word]
        have nin : ¬ e.1 ∈ (es.take i).map Prod.fst := by
          have nd := ok.nd
          have := List.take_append_drop i (es.take 4)
          rw [← this, List.map_append, List.nodup_append] at nd
          intro hm
          refine nd.2.2 e.1 (by rw [List.take_take, Nat.min_eq_left (by omega)]; exact hm) e.1 ?_ rfl
          refine List.mem_map.mpr ⟨e, ?_, rfl⟩
          refine List.mem_of_getElem? (i := 0) ?_
          rw [List.getElem?_drop]
          exact het
        rw [decide_eq_false nin]
        refine iteF ?_
        refine ⟨_, rfl, _, rfl, ya, _, _, _, rfl, rfl, SqT.of hya4, atI_nat (j := 0) rfl, sz1, fun nl hnl => ?_⟩
        have wnl : wl ≠ nl := ne_of_none hw4 hnl
        refine ⟨wl, nl, _, _, rfl, rfl, by rw [upd_ne wnl]; exact hw4, upd_same, ?_, fun p hp => ?_⟩
        · rw [List.length_map, List.length_take]
          exact Nat.le_trans (show _ ≤ 5 by simp; omega) (by decide)
        · refine ⟨⟨p, _, _, rfl, ?_⟩, ((s2.trans s4).trans (Same.new hnl)).trans (Same.new hp), by omega⟩
          rw [upd_same, take_snoc he, List.map_append]
          rfl
end
end Mw
/-! W9: place_of, ranking_of, meant_word -/
namespace Mw
open PySem PySem.Spec PyProof.Rows L2
/-- the tuple of entries at u -/
def EntsAt (H : Hp) (u : Addr) (es : List Ent) : Prop := ∃ refs, H u = some (.tup refs) ∧ Paired (EntAt H) refs es
theorem EntsAt.mono {H H' : Hp} {u : Addr} {es : List Ent} (h : EntsAt H u es) (s : Same H H') : EntsAt H' u es := by
  obtain ⟨r, h1, h2⟩ := h
  exact ⟨r, s _ _ h1, ents_mono h2 s⟩
/-! ### data -/
theorem eqvAll_map' {α : Type} [DecidableEq α] {f : α → PyData} (h : ∀ a b, PyData.eqv (f a) (f b) = decide (a = b)) : ∀ l m : List α, PyData.eqvAll (l.map f) (m.map f) = decide (l = m)
  | [], [] => by simp [PyData.eqvAll]
  | [], _ :: _ => by simp [PyData.eqvAll]
  | _ :: _, [] => by simp [PyData.eqvAll]
  | x :: xs, y :: ys => by
    rw [List.map_cons, List.map_cons, PyData.eqvAll, h, eqvAll_map' h xs ys, ← Bool.decide_and]
    exact decide_eq_decide.mpr (by rw [List.cons.injEq])
theorem eqv_nil (ds : List PyData) : PyData.eqv (.list ds) (.list []) = decide (ds = []) := by
  cases ds <;> simp [PyData.eqv, PyData.eqvAll]
theorem lay_map {α : Type} {f : α → PyData} : ∀ {l : List α}, (∀ a ∈ l, (f a).canLay0 = true) → PyData.canLayAll0 (l.map f) = true
  | [], _ => by simp [PyData.canLayAll0]
  | a :: l, h => by
    rw [List.map_cons, PyData.canLayAll0, h a (List.mem_cons_self ..), lay_map fun b hb => h b (List.mem_cons_of_mem _ hb)]
    rfl
theorem depth_map {α : Type} {f : α → PyData} {n : Nat} : ∀ {l : List α}, (∀ a ∈ l, (f a).depth ≤ n) → PyData.depthAll (l.map f) ≤ n
  | [], _ => Nat.zero_le _
  | a :: l, h => by
    rw [List.map_cons, PyData.depthAll]
    exact Nat.max_le.mpr ⟨h a (List.mem_cons_self ..), depth_map fun b hb => h b (List.mem_cons_of_mem _ hb)⟩
theorem shaped_of {d : PyData} (h : d.canLay0 = true) (k : d.depth ≤ 64) : SeqAt.shaped d = true := by
  show (d.canLay0 && decide (d.depth ≤ 64)) = true
  rw [h, decide_eq_true k]
  rfl
def wd (x : List Nat) : PyData := .str (tx x)
theorem eqv_wd (x y : List Nat) : PyData.eqv (wd x) (wd y) = decide (x = y) := by
  show PyData.eqv (.str (tx x)) (.str (tx y)) = _
  rw [PyData.eqv, SX.S_beq_eq]
theorem lay_wd {x : List Nat} (h : ∀ c ∈ x, c ≤ 122) : (wd x).canLay0 = true := by
  show ((tx x).cps.all (· < 0x110000)) = true
  rw [← Array.all_toList, List.all_eq_true]
  intro c hc
  have := h c (by simpa using hc)
  exact decide_eq_true (show c < 0x110000 by omega)
def tpD (t : Int × List Nat) : PyData := .tuple [.int t.1, wd t.2]
theorem eqv_tp (a b : Int × List Nat) : PyData.eqv (tpD a) (tpD b) = decide (a = b) := by
  obtain ⟨a1, a2⟩ := a
  obtain ⟨b1, b2⟩ := b
  unfold tpD
  simp only [PyData.eqv, PyData.eqvAll, eqv_wd]
  rw [Bool.eq_iff_iff]
  simp
section
variable {P : Program} {w : World} {K : PySem.W.Frag} {mg : Str → Option Value} {base : Heap}
def N_place_of : List Str := ["entries", "word", "words", "entry"]
theorem sc_place_of : FnScope N_place_of ["entries", "word"] (defScope (top 31)) := ⟨rfl, rfl, rfl, by decide +kernel, rfl, by decide +kernel, by decide +kernel⟩
def spPlaceOf (K : PySem.W.Frag) : Sp := fun vs H Q _ => ∃ (u : Addr) (es : List Ent) (x : List Nat) (i : Nat), vs = [.ref u, .str (tx x)] ∧ EntsAt H u es ∧ es.length ≤ 4 ∧ (es.map Prod.fst)[i]? = some x ∧ (es.map Prod.fst).Nodup ∧ ∀ H', Same H H' → Q (.int (i : Nat)) H'
theorem c_place_of (T : Tx P w K mg) : Cl P w K mg base CX0 1 "place_of" (spPlaceOf K) := by
  have S := sc_place_of
  refine mkCl0 T.d_place_of T.gf_place_of S (fun _ _ _ _ _ _ us hl => match us, hl with | [_, _], _ => rfl) (fun vs H Q E h => ?_) (fun cdv A outer s H vs Q E hr h => ?_)
  · obtain ⟨u, es, x, i, rfl, _⟩ := h
    rfl
  · obtain ⟨u, es, x, i, rfl, ⟨refs, hu, pp⟩, l4, hi, nd, k⟩ := h
    refine ⟨_, (pss_cons (ps_setLc (i := 2) (own := [("entry", 3)]) (g := gName 3) (tt := tYes) (by rfl) S.nd rfl rfl (sw_true rfl rfl rfl (by decide +kernel)) (pi_tup (pv 0)) (blkOk_by (own := [("entry", 3)]) (N := N_place_of) (sc := defScope (top 31)) (by decide +kernel)) (fun _ _ _ _ _ => (pg_name (i := 3) S.nd rfl (Or.inl rfl))) (fun _ _ _ _ _ => pts_nil) (fun _ _ _ _ _ => (pe_ix (r := rIxT K) ix_tup (pv 3) pe_int (fun _ _ => rfl))))
    (pss_cons (ps_if (PW.pt (pw_or (pt_not (pt_val (pe_callB call_isi rfl T.n_isinstance bt_isinstance (pa_cons (pv 1) (pa_cons (pe_bltn (v := .ty "str") rfl T.n_str bt_str rfl) pa_nil))))) (pw_or1 (pt_cmpR op_notIn_seq (pv 1) (pv 2) rfl)))) pss_never pss_nil)
    (pss_one (ps_ret (pe_bm PySem.F.plainAttrs_list PySem.F.slot_list_index PySem.F.type_list_index mt_index (pv 2) (pa_cons (pv 1) pa_nil)))))), ?_⟩
    have rl := pp.length
    refine ⟨_, rfl, u, rfl, ⟨refs, SqT.of hu⟩, fun D hD => ?_⟩
    refine lc_map es wordV (rl ▸ walk_tup (xs := refs)) (by omega) hD (fun H' s => SqT.of (s _ _ hu)) (fun i a v H1 H2 Qe ha s1 y kk => ?_) (fun H1 s1 h1 => ?_)
    · obtain ⟨rfl, hv⟩ := y
      obtain ⟨e, he, ⟨ea, rfl, hea⟩⟩ := paired_at pp hv
      obtain rfl : a = e := by
        rw [ha] at he
        exact Option.some.inj he
      exact ⟨rfl, _, rfl, ea, _, _, _, rfl, rfl, SqT.of (s1 _ _ hea), atI_nat (j := 0) rfl, kk _ (Same.refl _)⟩
    · refine ⟨_, rfl, _, _, _, _, true, rfl, .ty _, .base (.str _), kit_ty (by decide +kernel), _, rfl, iteF ?_⟩
      refine ⟨_, rfl, _, rfl, D, _, rfl, .inl (SqL.of h1), rfl, words_flat _, _, rfl, ?_⟩
      rw [inV_word, decide_eq_true (List.mem_of_getElem? hi)]
      refine iteF ?_
      obtain ⟨e, he, hex⟩ : ∃ e, es[i]? = some e ∧ e.1 = x := by
        rw [List.getElem?_map] at hi
        cases q : es[i]? with
        | none => rw [q] at hi; cases hi
        | some e => rw [q] at hi; exact ⟨e, rfl, Option.some.inj hi⟩
      refine ⟨_, rfl, .inl ⟨rfl, _, .inl (.inl h1)⟩, _, rfl, D, _, _, i, wordV e, rfl, rfl, SqL.of h1, rfl, words_flat _, by rw [List.getElem?_map, he]; rfl, by rw [eqV_str, hex]; simp, fun m z hm hz => ?_, k _ s1⟩
      rw [List.getElem?_map] at hz
      cases q : es[m]? with
      | none => rw [q] at hz; cases hz
      | some f =>
        rw [q] at hz
        obtain rfl := Option.some.inj hz
        show eqV (.str (tx f.1)) (.str (tx x)) = false
        rw [eqV_str]
        refine decide_eq_false fun hf => ?_
        have h2 : (es.map Prod.fst)[m]? = some x := by rw [List.getElem?_map, q, ← hf]; rfl
        have := (List.getElem?_inj (List.getElem?_eq_some_iff.mp h2).1 nd).mp (h2.trans hi.symm)
        omega
theorem trips_at {p : Sl} {x : List Nat} {es : List Ent} {i : Nat} {e : Ent} (he : es[i]? = some e) : (trips p x es)[i]? = some (tot p x e, (i : Int), e.1) := by
  unfold trips
  rw [List.getElem?_map, List.getElem?_range (List.getElem?_eq_some_iff.mp he).1]
  show some (match es[i]? with | some e => (tot p x e, (i : Int), e.1) | none => (0, 0, [])) = _
  rw [he]
theorem trip_inj {p : Sl} {x : List Nat} {es : List Ent} {t t' : Trip} (h : t ∈ trips p x es) (h' : t' ∈ trips p x es) (e : t.2.1 = t'.2.1) : t = t' := by
  obtain ⟨i, a, ha, rfl⟩ := mem_trips.mp h
  obtain ⟨j, b, hb, rfl⟩ := mem_trips.mp h'
  have q : (i : Int) = j := e
  obtain rfl : i = j := by omega
  rw [ha] at hb
  rw [Option.some.inj hb]
theorem trips_nd {p : Sl} {x : List Nat} {es : List Ent} : (trips p x es).Pairwise fun a b => a.2.1 ≠ b.2.1 := by
  rw [List.pairwise_iff_getElem]
  intro i j hi hj hij e
  have l : (trips p x es).length = es.length := by unfold trips; rw [List.length_map, List.length_range]
  have h1 := trips_at (p := p) (x := x) (es := es) (i := i) (e := es[i]'(by omega)) (by simp)
  have h2 := trips_at (p := p) (x := x) (es := es) (i := j) (e := es[j]'(by omega)) (by simp)
  rw [List.getElem?_eq_getElem hi] at h1
  rw [List.getElem?_eq_getElem hj] at h2
  rw [Option.some.inj h1, Option.some.inj h2] at e
  have q : (i : Int) = j := e
  omega
theorem paired_mem {α β : Type} {F : α → β → Prop} {l : List α} {m : List β} (p : Paired F l m) {a : α} (h : a ∈ l) : ∃ b ∈ m, F a b := by
  obtain ⟨i, hi⟩ := List.getElem?_of_mem h
  obtain ⟨b, hb, f⟩ := paired_at p hi
  exact ⟨b, List.mem_of_getElem? hb, f⟩
theorem paired_of {α β : Type} {F : α → β → Prop} (f : α → β) : ∀ (l : List α), (∀ a ∈ l, F a (f a)) → Paired F l (l.map f)
  | [], _ => .nil
  | a :: l, h => .cons (h a (List.mem_cons_self ..)) (paired_of f l fun b hb => h b (List.mem_cons_of_mem _ hb))
def N_ranking_of : List Str := ["entries", "slips", "text", "found", "at", "word", "own", "total"]
theorem sc_ranking_of : FnScope N_ranking_of ["entries", "slips", "text"] (defScope (top 32)) := ⟨rfl, rfl, rfl, by decide +kernel, rfl, by decide +kernel, by decide +kernel⟩
/-- the pair (total, word) -/
def TpAt (H : Hp) (v : V) (t : Int × List Nat) : Prop := ∃ a, v = .ref a ∧ H a = some (.tup [.int t.1, .str (tx t.2)])
theorem TpAt.monoN {H H' : Hp} {v : V} {t : Int × List Nat} (h : TpAt H v t) (s : SameN H H') : TpAt H' v t := by
  obtain ⟨a, h1, h2⟩ := h
  exact ⟨a, h1, s _ _ h2 (fun l z => by cases z)⟩
def TrAt (H : Hp) (v : V) (t : Trip) : Prop := ∃ a, v = .ref a ∧ H a = some (.tup [.int t.1, .int t.2.1, .str (tx t.2.2)])
theorem TrAt.monoN {H H' : Hp} {v : V} {t : Trip} (h : TrAt H v t) (s : SameN H H') : TrAt H' v t := by
  obtain ⟨a, h1, h2⟩ := h
  exact ⟨a, h1, s _ _ h2 (fun l z => by cases z)⟩
def tOf (H : Hp) (v : V) : Trip := match v with
  | .ref t => match H t with
    | some (.tup [.int a, .int b, .str z]) => (a, b, z.cps.toList)
    | _ => (0, 0, [])
  | _ => (0, 0, [])
def kOf (H : Hp) (v : V) : Int × Int := ((tOf H v).1, (tOf H v).2.1)
def zOf (H : Hp) (v : V) : Str := tx (tOf H v).2.2
theorem tOf_eq {H : Hp} {v : V} {t : Trip} (h : TrAt H v t) : tOf H v = t := by
  obtain ⟨a, rfl, ha⟩ := h
  unfold tOf
  simp only [ha]
theorem kOf_eq {H : Hp} {v : V} {t : Trip} (h : TrAt H v t) : kOf H v = (t.1, t.2.1) := by unfold kOf; rw [tOf_eq h]
theorem zOf_eq {H : Hp} {v : V} {t : Trip} (h : TrAt H v t) : zOf H v = tx t.2.2 := by unfold zOf; rw [tOf_eq h]
theorem sorted_trips_of {p : Sl} {x : List Nat} {es : List Ent} {H : Hp} {acc ys : List V} (pa : Paired (TrAt H) acc (trips p x es)) (hs : SrtO.Srtd (ltP (kOf H)) ys) (hb : ys.Perm acc) :
    ∃ ts, Paired (TrAt H) ys ts ∧ ts.Perm (trips p x es) ∧ ts.Pairwise ltT := by
  have ea : acc.map (tOf H) = trips p x es := by
    have key : ∀ {l : List V} {m : List Trip}, Paired (TrAt H) l m → l.map (tOf H) = m := by
      intro l m q
      induction q with
      | nil => rfl
      | cons r _ ih => rw [List.map_cons, ih, tOf_eq r]
    exact key pa
  have hp : (ys.map (tOf H)).Perm (trips p x es) := by rw [← ea]; exact hb.map _
  refine ⟨ys.map (tOf H), paired_of _ _ fun y hy => ?_, hp, ?_⟩
  · obtain ⟨t, _, tt⟩ := paired_mem pa (hb.mem_iff.mp hy)
    rw [tOf_eq tt]
    exact tt
  · have nd : (ys.map (tOf H)).Pairwise fun a b => a.2.1 ≠ b.2.1 := hp.symm.pairwise trips_nd fun h => Ne.symm h
    rw [List.pairwise_map] at nd ⊢
    refine (nd.and hs).imp fun {a b} h => ?_
    have h3 := SrtO.lexB_no.mp h.2
    have h1 := h.1
    unfold ltT
    unfold kOf at h3
    dsimp only at h3
    omega
def spRankingOf (K : PySem.W.Frag) : Sp := fun vs H Q _ => ∃ (u sa : Addr) (es : List Ent) (p : Sl) (x : List Nat), vs = [.ref u, .ref sa, .str (tx x)] ∧ EntsAt H u es ∧ SlipsAt K H sa p ∧ EsOk es ∧ AzL x ∧
  ∀ (l : Addr) (refs : List V) (r : List (Int × List Nat)) H', Same H H' → H' l = some (.lst refs) → Paired (TpAt H') refs r → RankIs p x es r → Q (.ref l) H'
theorem c_ranking_of (T : Tx P w K mg) : Cl P w K mg base CX0 6 "ranking_of" (spRankingOf K) := by
  have S := sc_ranking_of
  have c_need_text := @c_need_text P w K mg base T
  have c_price := @c_price P w K mg base T
  refine mkCl0 T.d_ranking_of T.gf_ranking_of S (fun _ _ _ _ _ _ us hl => match us, hl with | [_, _, _], _ => rfl) (fun vs H Q E h => ?_) (fun cdv A outer s H vs Q E hr h => ?_)
  · obtain ⟨u, sa, es, p, x, rfl, _⟩ := h
    rfl
  · obtain ⟨u, sa, es, p, x, rfl, ⟨refs, hu, pp⟩, sl, ok, ax, k⟩ := h
    refine ⟨_, (pss_cons (ps_expr (pe_f c_need_text hr (by decide) rfl pass0 (pa_cons (pv 2) pa_nil)))
    (pss_cons (ps_setLc (i := 3) (own := [("at", 4), ("word", 5), ("own", 6)]) (g := gTup K 2 (gCons (gName 4) (gCons (gTup K 2 (gCons (gName 5) (gCons (gName 6) gNil))) gNil))) (tt := tYes) (by rfl) S.nd rfl rfl (sw_true rfl rfl rfl (by decide +kernel)) (pi_enumA (by rfl) T.n_enumerate (pa_cons (pv 0) pa_nil)) (blkOk_by (own := [("at", 4), ("word", 5), ("own", 6)]) (N := N_ranking_of) (sc := defScope (top 32)) (by decide +kernel)) (fun _ _ _ _ _ => (pg_tup rfl (pgs_cons (pg_name (i := 4) S.nd rfl (Or.inl rfl)) (pgs_cons (pg_tup rfl (pgs_cons (pg_name (i := 5) S.nd rfl (Or.inl rfl)) (pgs_cons (pg_name (i := 6) S.nd rfl (Or.inl rfl)) pgs_nil))) pgs_nil)))) (fun _ _ _ _ _ => pts_nil) (fun _ _ _ _ _ => (pe_tup (pa_cons (pe_op op_add (pe_f c_price hr (by decide) rfl pass0 (pa_cons (pv 1) (pa_cons (pv 5) (pa_cons (pv 2) pa_nil)))) (pv 6)) (pa_cons (pv 4) (pa_cons (pv 5) pa_nil))))))
    (pss_one (ps_ret (pe_lc (own := [("total", 7), ("at", 4), ("word", 5)]) (g := gTup K 3 (gCons (gName 7) (gCons (gName 4) (gCons (gName 5) gNil)))) (tt := tYes) (by rfl) S.nd (pi_list (pe_callB cr_sorted3 rfl T.n_sorted bt_sorted (pa_cons (pv 3) pa_nil))) (blkOk_by (own := [("total", 7), ("at", 4), ("word", 5)]) (N := N_ranking_of) (sc := defScope (top 32)) (by decide +kernel)) (fun _ _ _ _ _ => (pg_tup rfl (pgs_cons (pg_name (i := 7) S.nd rfl (Or.inl rfl)) (pgs_cons (pg_name (i := 4) S.nd rfl (Or.inl rfl)) (pgs_cons (pg_name (i := 5) S.nd rfl (Or.inl rfl)) pgs_nil))))) (fun _ _ _ _ _ => pts_nil) (fun _ _ _ _ _ => (pe_tup (pa_cons (pv 7) (pa_cons (pv 5) pa_nil))))))))), ?_⟩
    have rl := pp.length
    refine ⟨_, rfl, _, rfl, ax.az, fun H1 s1 => ?_⟩
    refine ⟨_, rfl, u, refs, rfl, .inr ⟨SqT.of (s1 _ _ hu), fun D hD => ?_⟩⟩
    have tl : (trips p x es).length = es.length := by unfold trips; rw [List.length_map, List.length_range]
    refine lc_rel (trips p x es) TrAt TrAt.monoN (by rw [tl, ← rl]; exact walk_enumT (xs := refs)) (by rw [tl]; have := ok.len; omega) hD (fun H' s => SqT.of ((s1.trans s) _ _ hu)) (fun i a v H2 H3 Qe ha s2 y kk => ?_) (fun H2 acc s2 h2 pa => ?_)
    · obtain ⟨T', x', y', rfl, hT, rfl, hx', hy'⟩ := y
      obtain rfl := Option.some.inj hx'
      obtain ⟨e, he, ⟨ea, rfl, hea⟩⟩ := paired_at pp hy'
      have hae : a = (tot p x e, (i : Int), e.1) := by
        rw [trips_at he] at ha
        exact (Option.some.inj ha).symm
      have s12 := s1.trans s2
      have s13 := s12.trans (Same.new (o := .tup [.int (i : Nat), .ref ea]) hT)
      refine ⟨T', _, rfl, SqT.of upd_same, rfl, _, _, rfl, _, _, rfl, ea, _, rfl, SqT.of (s13 _ _ hea), rfl, _, _, rfl, _, _, rfl, rfl, rfl, rfl, ?_⟩
      refine ⟨_, rfl, _, rfl, _, rfl, sa, p, e.1, x, rfl, sl.mono s13, (ok.all e (List.mem_of_getElem? he)).azl, ax, fun H4 s4 => ?_⟩
      refine ⟨_, rfl, _, _, rfl, rfl, _, rfl, _, rfl, sz3, fun tt htt => kk _ _ ((Same.new hT).trans (s4.trans (Same.new htt))) ⟨tt, rfl, ?_⟩⟩
      rw [hae]
      exact upd_same
    · have s12 := s1.trans s2
      refine ⟨_, rfl, D, acc, kOf H2, zOf H2, rfl, SqL.of h2, fun y hy => ?_, fun y hy z hz e => ?_, fun ys q hs hb hq => ?_⟩
      · obtain ⟨t, _, ⟨ta, rfl, hta⟩⟩ := paired_mem pa hy
        exact ⟨ta, rfl, by rw [kOf_eq ⟨ta, rfl, hta⟩, zOf_eq ⟨ta, rfl, hta⟩]; exact hta⟩
      · obtain ⟨t, ht, tt⟩ := paired_mem pa hy
        obtain ⟨t', ht', tt'⟩ := paired_mem pa hz
        rw [kOf_eq tt, kOf_eq tt'] at e
        rw [zOf_eq tt, zOf_eq tt']
        rw [trip_inj ht ht' (congrArg Prod.snd e)]
      obtain ⟨ts, pt, hp, hw⟩ := sorted_trips_of pa hs hb.perm
      refine ⟨q, rfl, ⟨ys, SqL.of upd_same⟩, fun D2 hD2 => ?_⟩
      have sq : Same H2 (upd H2 q (.lst ys)) := Same.new hq
      have pt2 := Paired.mapP pt fun _ _ h => h.monoN (Same.n sq)
      have yl : ys.length = ts.length := pt.length
      have tl2 : ts.length = es.length := by rw [hp.length_eq, tl]
      refine lc_rel (ts.map fun t => (t.1, t.2.2)) TpAt TpAt.monoN (by rw [List.length_map, ← yl]; exact walk_list (xs := ys)) (by rw [List.length_map, tl2]; have := ok.len; omega) hD2 (fun H' s => SqL.of (s _ _ upd_same)) (fun i a v H3 H4 Qe ha s3 y kk => ?_) (fun H3 acc3 s3 h3 pa3 => ?_)
      · obtain ⟨rfl, hv⟩ := y
        obtain ⟨t, ht, ⟨ta, rfl, hta⟩⟩ := paired_at pt2 hv
        obtain rfl : (t.1, t.2.2) = a := by
          rw [List.getElem?_map, ht] at ha
          exact Option.some.inj ha
        refine ⟨ta, _, rfl, SqT.of (s3 _ _ hta), rfl, _, _, rfl, _, _, rfl, _, _, rfl, rfl, rfl, ?_⟩
        exact ⟨_, rfl, _, rfl, sz2, fun tt htt => kk _ _ (Same.new htt) ⟨tt, rfl, upd_same⟩⟩
      · exact k D2 acc3 _ H3 ((s12.trans sq).trans s3) h3 pa3 ⟨ts, hp, hw, rfl⟩
theorem RankIs.az {p : Sl} {x : List Nat} {es : List Ent} {r : List (Int × List Nat)} (a : RankIs p x es r) (ok : EsOk es) {t : Int × List Nat} (h : t ∈ r) : ∀ c ∈ t.2, c ≤ 122 := by
  obtain ⟨ts, h1, h2, rfl⟩ := a.ex
  obtain ⟨u, hu, rfl⟩ := List.mem_map.mp h
  obtain ⟨i, e, he, rfl⟩ := mem_trips.mp (h1.mem_iff.mp hu)
  exact fun c hc => ((ok.all e (List.mem_of_getElem? he)).az c hc).2
theorem dp_tps {H : Hp} {vs : List V} {r : List (Int × List Nat)} (p : Paired (TpAt H) vs r) : DpAll K H vs (r.map tpD) := by
  induction p with
  | nil => exact .nil
  | cons h _ ih =>
    obtain ⟨a, rfl, ha⟩ := h
    exact .cons (.tup (SqT.of ha) (.cons (.int _) (.cons (.str _) .nil))) ih
theorem shaped_tps {r : List (Int × List Nat)} (h : ∀ t ∈ r, ∀ c ∈ t.2, c ≤ 122) : SeqAt.shaped (.list (r.map tpD)) = true := by
  refine shaped_of ?_ ?_
  · rw [PyData.canLay0]
    refine lay_map fun t ht => ?_
    unfold tpD
    simp only [PyData.canLay0, PyData.canLayAll0]
    rw [lay_wd (h t ht)]
    rfl
  · rw [PyData.depth]
    have : PyData.depthAll (r.map tpD) ≤ 1 := depth_map fun t _ => by
      unfold tpD wd
      simp [PyData.depth, PyData.depthAll]
    omega
def N_meant_word : List Str := ["entries", "slips", "text", "found"]
theorem sc_meant_word : FnScope N_meant_word ["entries", "slips", "text"] (defScope (top 33)) := ⟨rfl, rfl, rfl, by decide +kernel, rfl, by decide +kernel, by decide +kernel⟩
def moV : Option (List Nat) → V
  | none => .non
  | some x => .str (tx x)
def spMeantWord (K : PySem.W.Frag) : Sp := fun vs H Q _ => ∃ (u sa : Addr) (es : List Ent) (p : Sl) (x : List Nat), vs = [.ref u, .ref sa, .str (tx x)] ∧ EntsAt H u es ∧ SlipsAt K H sa p ∧ EsOk es ∧ AzL x ∧
  ∀ (o : Option (List Nat)) H', Same H H' → MeantIs p x es o → Q (moV o) H'
theorem c_meant_word (T : Tx P w K mg) : Cl P w K mg base CX0 7 "meant_word" (spMeantWord K) := by
  have S := sc_meant_word
  have c_ranking_of := @c_ranking_of P w K mg base T
  refine mkCl0 T.d_meant_word T.gf_meant_word S (fun _ _ _ _ _ _ us hl => match us, hl with | [_, _, _], _ => rfl) (fun vs H Q E h => ?_) (fun cdv A outer s H vs Q E hr h => ?_)
  · obtain ⟨u, sa, es, p, x, rfl, _⟩ := h
    rfl
  · obtain ⟨u, sa, es, p, x, rfl, eu, sl, ok, ax, k⟩ := h
    refine ⟨_, (pss_cons (ps_set (i := 3) S.nd rfl (Or.inl rfl) (pe_f c_ranking_of hr (by decide) rfl pass0 (pa_cons (pv 0) (pa_cons (pv 1) (pa_cons (pv 2) pa_nil)))))
    (pss_one (ps_ret (pe_ifExp (pt_cmpR (op_neD hr.units) (pv 3) (pe_lst pa_nil) (nomark _)) (pe_ix ix_tup (pe_ix ix_list (pv 3) pe_int (fun _ _ => rfl)) pe_int (fun _ _ => rfl)) pe_non)))), ?_⟩
    refine ⟨_, rfl, _, rfl, _, rfl, u, sa, es, p, x, rfl, eu, sl, ok, ax, fun l refs r H1 s1 hl pr rk => ?_⟩
    have ln : refs.length = r.length := pr.length
    refine ⟨_, rfl, sz0, fun e he => ?_⟩
    have hl2 := Same.new (o := .lst []) he _ _ hl
    have pr2 := Paired.mapP pr fun _ _ h => h.monoN (Same.n (Same.new (o := .lst []) he))
    refine ⟨.list (r.map tpD), .list [], .lst (SqL.of hl2) (dp_tps pr2), .lst (SqL.of upd_same) .nil, shaped_tps fun t ht => rk.az ok ht, by decide, ?_⟩
    rw [eqv_nil]
    refine ⟨_, rfl, ?_⟩
    cases r with
    | nil => exact iteF (k _ _ (s1.trans (Same.new he)) rk.meant)
    | cons t r =>
      cases pr2 with
      | cons ht _ =>
        obtain ⟨ta, rfl, hta⟩ := ht
        refine iteT ⟨_, rfl, l, _, _, _, rfl, rfl, SqL.of hl2, atI_nat (j := 0) rfl, ta, _, _, _, rfl, rfl, SqT.of hta, atI_nat (j := 1) rfl, ?_⟩
        exact k (some t.2) _ (s1.trans (Same.new he)) rk.meant
end
end Mw
/-! W10: the class Speller -/
namespace Mw
open PySem PySem.Spec PyProof.Rows L2
theorem passN {X : Cx} {P : Program} {w : World} : Passes (L2.CX P w) X (fun _ _ _ => False) := fun _ _ _ _ _ _ _ ⟨_, _, _, _, _, _, _, _, _, _, _, _, h⟩ => h.elim
abbrev aSp (K : PySem.W.Frag) : Addr := He.ga K "Speller"
def spF (u sa : Addr) : List (Str × V) := [("e_entries", .ref u), ("e_slips", .ref sa)]
theorem spF_e {u sa : Addr} : (spF u sa).lookup ("e_entries" : Str) = some (.ref u) := look_eq
theorem spF_s {u sa : Addr} : (spF u sa).lookup ("e_slips" : Str) = some (.ref sa) := by
  unfold spF
  rw [look_ne (by decide +kernel), look_eq]
theorem spF_put {u sa : Addr} : putF "e_slips" (.ref sa) (putF "e_entries" (.ref u) []) = spF u sa := by
  have a1 : ¬ ("e_entries" : Str) = "e_slips" := by decide +kernel
  simp only [putF, if_neg a1]
  rfl
/-- at a: a speller of these entries and slips -/
def SpellerAt (K : PySem.W.Frag) (H : Hp) (a : Addr) (es : List Ent) (p : Sl) : Prop := ∃ dx u sa, H a = some (.ins (aSp K) dx (spF u sa)) ∧ EntsAt H u es ∧ SlipsAt K H sa p
theorem SpellerAt.mono {K : PySem.W.Frag} {H H' : Hp} {a : Addr} {es : List Ent} {p : Sl} (h : SpellerAt K H a es p) (s : Same H H') : SpellerAt K H' a es p := by
  obtain ⟨dx, u, sa, h1, h2, h3⟩ := h
  exact ⟨dx, u, sa, s _ _ h1, h2.mono s, h3.mono s⟩
section
variable {P : Program} {w : World} {K : PySem.W.Frag} {mg : Str → Option Value} {base : Heap}
def N_Speller_init : List Str := ["self", "entries", "slips"]
theorem sc_Speller_init : FnScope N_Speller_init ["self", "entries", "slips"] (defScope (inClass (top 30) 0)) := ⟨rfl, rfl, rfl, by decide +kernel, rfl, by decide +kernel, by decide +kernel⟩
def spSpellerInit (K : PySem.W.Frag) : Sp := fun vs H Q E => ∃ (B M : Hp) (x dx a : Addr) (sv : V) (refs : List V) (es : List Ent) (p : Sl), vs = [.ref x, .ref a, sv] ∧ Wd B (upd M x (.ins (aSp K) dx [])) H ∧ (H a = some (.lst refs) ∨ B a = some (.tup refs)) ∧ Paired (EntAt B) refs es ∧
  EsOk (es.take 4) ∧ es.length ≤ 5 ∧ ((sv = .non ∧ p = ⟨1, 1, 1, none⟩) ∨ ∃ sa, sv = .ref sa ∧ SlipsAt K B sa p) ∧
  (es.length ≤ 4 → ∀ B' u sa H', Same B B' → Wd B' (upd M x (.ins (aSp K) dx (spF u sa))) H' → EntsAt B' u es → SlipsAt K B' sa p → Q .non H') ∧
  (es.length = 5 → ∀ d H', H d = none → Same H H' → H' d = some (.xd [("at", .int 4)]) → E (.ref (aBE K)) (some d) H')
theorem f_Speller_init (T : Tx P w K mg) {fd : FuncData} (F : FunD K "__init__" "Speller.__init__" (defArgs (inClass (top 30) 0)) (defBody (inClass (top 30) 0)) (defScope (inClass (top 30) 0)) [.non] [] (He.ma K (aSp K) "__init__") fd) :
    FnOk P w K mg base (L2.CX P w) 5 (He.ma K (aSp K) "__init__") fd ["self", "entries", "slips"] (spSpellerInit K) := by
  have S := sc_Speller_init
  have c_need_entries := @c_need_entries P w K mg base T
  have c_Slips := @c_Slips P w K mg base T
  refine F.ok S (fun vs H Q E h => ?_) (fun cdv A outer s H vs Q E hr h => ?_)
  · obtain ⟨B, M, x, dx, a, sv, refs, es, p, rfl, _⟩ := h
    rfl
  · obtain ⟨B, M, x, dx, a, sv, refs, es, p, rfl, wd, ha, pp, ok, l5, hsv, kq, ke⟩ := h
    have tk : Takes (cxOf (L2.CX P w) P w K mg base N_Speller_init "Speller.__init__" (defScope (inClass (top 30) 0)) (He.ma K (aSp K) "__init__") cdv A outer s H E) (fun cls d _ H => E cls d H) := takes_of rfl rfl rfl rfl
    have hx : Passes (L2.CX P w) (cxOf (L2.CX P w) P w K mg base N_Speller_init "Speller.__init__" (defScope (inClass (top 30) 0)) (He.ma K (aSp K) "__init__") cdv A outer s H E) E := passes_call tk fun _ _ _ _ h => h
    refine ⟨_, (pss_cons (ps_expr (pe_f c_need_entries hr (by decide) rfl hx (pa_cons (pv 1) pa_nil)))
    (pss_cons (ps_fld (pv 0) (pe_callTy call_tuple_of rfl T.n_tuple bt_tuple (pa_cons (pv 1) pa_nil)) rfl)
    (pss_one (ps_fld (pv 0) (pe_ifExp (pt_cmpR op_isN (pv 2) pe_non (nomark _)) (pe_slips0 c_Slips hr (by decide) rfl) (pv 2)) rfl)))), ?_⟩
    have haH : H a = some (.lst refs) ∨ H a = some (.tup refs) := ha.imp id fun h => wd.b _ _ h
    refine ⟨_, rfl, a, refs, es, rfl, haH, ents_mono pp wd.b, ok, l5, fun h4 H1 s1 => ?_, ke⟩
    have w1 := wd.mono s1
    have c := T.cl_Speller
    rcases ha with ha | ha
    case' inl =>
      refine ⟨_, rfl, a, refs, rfl, .inl ⟨SqL.of (s1 _ _ ha), fun u hu => ?_⟩⟩
      have sB : Same B (upd B u (.tup refs)) := w1.sb hu
      have w2 := w1.new (o := .tup refs) hu
      have eu : EntsAt (upd B u (.tup refs)) u es := ⟨refs, upd_same, ents_mono pp sB⟩
    case' inr =>
      refine ⟨_, rfl, a, refs, rfl, .inr ⟨SqT.of (w1.b _ _ ha), ?_⟩⟩
      have sB := Same.refl B
      have w2 := w1
      have eu : EntsAt B a es := ⟨refs, ha, pp⟩
    all_goals
      refine ⟨_, rfl, fld_step w2 c T.na_Speller_e_entries (by decide) fun H3 w3 => ?_⟩
      refine ⟨_, rfl, rfl, _, rfl, ?_⟩
      rcases hsv with ⟨rfl, rfl⟩ | ⟨sa, rfl, sl⟩
      · refine iteT fun sx sdx hsx hsd sne => ?_
        refine slips_made (p := ⟨1, 1, 1, none⟩) w3 hsx hsd sne ⟨⟨by decide, by decide⟩, ⟨by decide, by decide⟩, ⟨by decide, by decide⟩, fun i z => by cases z⟩ fun B3 H4 s3 w4 sl => ?_
        refine ⟨_, rfl, fld_step w4 c T.na_Speller_e_slips (Nat.lt_of_le_of_lt (length_putF _ _ _) (by decide)) fun H5 w5 => ?_⟩
        exact kq h4 B3 _ _ H5 (sB.trans s3) (by rw [← spF_put]; exact w5) (eu.mono s3) sl
      · refine iteF ⟨_, rfl, _, rfl, fld_step w3 c T.na_Speller_e_slips (Nat.lt_of_le_of_lt (length_putF _ _ _) (by decide)) fun H5 w5 => ?_⟩
        exact kq h4 _ _ _ H5 sB (by rw [← spF_put]; exact w5) eu (sl.mono sB)
theorem c_Speller (T : Tx P w K mg) : Mc P w K mg base (L2.CX P w) 5 "Speller" (aSp K) (spSpellerInit K) [] := by
  obtain ⟨fd, F⟩ := T.d_Speller___init__
  obtain ⟨ds, hd, hb⟩ := FunD.binds1 (ps := ["self", "entries", "slips"]) F 3 1 (by simp) rfl (fun D kV doc pm an cdv ct us its h1 h2 => match us, its, h1, h2 with | [_, _, _], [_], _, _ => ⟨_, rfl, rfl⟩)
  exact ⟨_, fd, _, ds, T.mk_Speller, f_Speller_init T F, T.g_Speller, hb, hd⟩
theorem c_Speller1 (T : Tx P w K mg) : Mc P w K mg base (L2.CX P w) 5 "Speller" (aSp K) (spSpellerInit K) [.non] := by
  obtain ⟨fd, F⟩ := T.d_Speller___init__
  obtain ⟨ds, hd, hb⟩ := FunD.binds1 (ps := ["self", "entries", "slips"]) F 2 0 (by simp) rfl (fun D kV doc pm an cdv ct us its h1 h2 => match us, its, h1, h2 with | [_, _], [_], _, _ => ⟨_, rfl, rfl⟩)
  exact ⟨_, fd, _, ds, T.mk_Speller, f_Speller_init T F, T.g_Speller, hb, hd⟩
/-- what a new speller's maker is given, and what comes of it -/
theorem speller_made {B M H : Hp} {x dx a : Addr} {sv : V} {refs : List V} {es : List Ent} {p : Sl} {Q : Hp → Prop} {E : XK} (wd : Wd B M H) (hx : H x = none) (hd : H dx = none) (ne : dx ≠ x) (ha : H a = some (.lst refs) ∨ B a = some (.tup refs)) (pp : Paired (EntAt B) refs es) (ok : EsOk (es.take 4)) (l5 : es.length ≤ 5)
    (hs : (sv = .non ∧ p = ⟨1, 1, 1, none⟩) ∨ ∃ sa, sv = .ref sa ∧ SlipsAt K B sa p) (k : es.length ≤ 4 → ∀ B' H', Same B B' → Wd B' M H' → SpellerAt K B' x es p → Q H')
    (ke : es.length = 5 → ∀ d H', H d = none → Same H H' → H' d = some (.xd [("at", .int 4)]) → E (.ref (aBE K)) (some d) H') :
    spSpellerInit K [.ref x, .ref a, sv] (upd (upd H dx (.own x)) x (.ins (aSp K) dx [])) (fun v H2 => v = .non ∧ Q H2) E := by
  have hB := wd.fb hx
  have s1 : Same B (upd B dx (.own x)) := wd.sb hd
  have sH : Same H (upd (upd H dx (.own x)) x (.ins (aSp K) dx [])) := (Same.new hd).trans (Same.new (by rw [upd_ne (fun z => ne z.symm)]; exact hx))
  refine ⟨_, M, x, dx, a, sv, refs, es, p, rfl, wd.made hx hd ne, ha.imp (fun h => sH _ _ h) (fun h => s1 _ _ h), ents_mono pp s1, ok, l5, hs.imp id (fun ⟨sa, e, h⟩ => ⟨sa, e, h.mono s1⟩), fun h4 B' u sa H' sB w' eu sl => ⟨rfl, ?_⟩, fun h5 d H' hn ss hd' => ke h5 d H' ?_ (sH.trans ss) hd'⟩
  · have hBx : B' x = none := w'.bn upd_same
    have s2 : Same B' (upd B' x (.ins (aSp K) dx (spF u sa))) := Same.new hBx
    exact k h4 _ H' ((s1.trans sB).trans s2) (w'.frz (wd.fm hx)) ⟨dx, u, sa, upd_same, eu.mono s2, sl.mono s2⟩
  · exact sH.free hn
theorem c_Speller_entries (T : Tx P w K mg) : Pr P w K mg base CX0 1 (aSp K) "entries" (getSp (aSp K) "e_entries") :=
  mkGet T.d_Speller_entries T.cl_Speller T.na_Speller_e_entries T.pr_Speller_entries ⟨rfl, rfl, rfl, by decide +kernel, rfl, by decide +kernel, by decide +kernel⟩ (fun _ _ _ _ _ _ us hl => match us, hl with | [_], _ => rfl) rfl
theorem c_Speller_slips (T : Tx P w K mg) : Pr P w K mg base CX0 1 (aSp K) "slips" (getSp (aSp K) "e_slips") :=
  mkGet T.d_Speller_slips T.cl_Speller T.na_Speller_e_slips T.pr_Speller_slips ⟨rfl, rfl, rfl, by decide +kernel, rfl, by decide +kernel, by decide +kernel⟩ (fun _ _ _ _ _ _ us hl => match us, hl with | [_], _ => rfl) rfl
def N_Speller_eq : List Str := ["self", "other"]
theorem sc_Speller_eq : FnScope N_Speller_eq ["self", "other"] (defScope (inClass (top 30) 3)) := ⟨rfl, rfl, rfl, by decide +kernel, rfl, by decide +kernel, by decide +kernel⟩
def entD (e : Ent) : PyData := .tuple [wd e.1, .int e.2]
theorem eqv_ent (a b : Ent) : PyData.eqv (entD a) (entD b) = decide (a = b) := by
  obtain ⟨a1, a2⟩ := a
  obtain ⟨b1, b2⟩ := b
  unfold entD
  simp only [PyData.eqv, PyData.eqvAll, eqv_wd]
  rw [Bool.eq_iff_iff]
  simp
theorem dp_ents {H : Hp} {vs : List V} {es : List Ent} (p : Paired (EntAt H) vs es) : DpAll K H vs (es.map entD) := by
  induction p with
  | nil => exact .nil
  | cons h _ ih =>
    obtain ⟨a, rfl, ha⟩ := h
    exact .cons (.tup (SqT.of ha) (.cons (.str _) (.cons (.int _) .nil))) ih
theorem lay_ents {es : List Ent} (h : EsOk es) : PyData.canLayAll0 (es.map entD) = true := lay_map fun e he => by
  unfold entD
  simp only [PyData.canLay0, PyData.canLayAll0]
  rw [lay_wd fun c hc => ((h.all e he).az c hc).2]
  rfl
theorem depth_ents (es : List Ent) : PyData.depthAll (es.map entD) ≤ 1 := depth_map fun t _ => by
  unfold entD wd
  simp [PyData.depth, PyData.depthAll]
theorem shaped_ents {es : List Ent} (h : EsOk es) : SeqAt.shaped (.tuple (es.map entD)) = true := by
  refine shaped_of ?_ ?_
  · rw [PyData.canLay0]
    exact lay_ents h
  · rw [PyData.depth]
    have := depth_ents es
    omega
def spSpellerEq (K : PySem.W.Frag) : Sp := fun vs H Q _ => ∃ (a b : Addr) (es fs : List Ent) (p q : Sl), vs = [.ref a, .ref b] ∧ SpellerAt K H a es p ∧ SpellerAt K H b fs q ∧ EsOk es ∧ EsOk fs ∧ ∀ H', Same H H' → Q (.bl (decide (es = fs ∧ p = q))) H'
theorem c_Speller___eq__ (T : Tx P w K mg) : Mt P w K mg base CX0 2 (aSp K) "__eq__" (spSpellerEq K) := by
  have S := sc_Speller_eq
  have c_Slips___eq__ := @c_Slips___eq__ P w K mg base T
  refine mkMt0 T.d_Speller___eq__ T.cl_Speller T.me_Speller___eq__ S (fun _ _ _ _ _ _ us hl => match us, hl with | [_, _], _ => rfl) (fun vs H Q E h => ?_) (fun cdv A outer s H vs Q E hr h => ?_)
  · obtain ⟨a, b, es, fs, p, q, rfl, _⟩ := h
    rfl
  · obtain ⟨a, b, es, fs, p, q, rfl, ⟨da, ua, sa, ha, ⟨ra, hua, pa⟩, sla⟩, ⟨db, ub, sb, hb, ⟨rb, hub, pb⟩, slb⟩, oka, okb, k⟩ := h
    refine ⟨_, (pss_cons (ps_if (pt_not (pt_val (pe_callB call_isi rfl T.n_isinstance bt_isinstance (pa_cons (pv 1) (pa_cons (pe_glob (v := .ref (He.ga K "Speller")) rfl T.g_Speller rfl) pa_nil))))) (pss_one (ps_ret pe_bl)) pss_nil)
    (pss_one (ps_ret (pe_and (pe_cmpR (op_eqD hr.units) (pe_fld (pv 0) rfl) (pe_fld (pv 1) rfl) (nomark _)) (pe_one (pe_cmpR (op_eqO c_Slips___eq__ hr (by decide) pass0) (pe_fld (pv 0) rfl) (pe_fld (pv 1) rfl) (nomark _))))))), ?_⟩
    have c := T.cl_Speller
    refine ⟨_, rfl, _, _, _, _, true, rfl, .own _, tyx_own T.ic_Speller hb, T.ic_Speller.me, _, rfl, iteF ?_⟩
    refine ⟨_, rfl, a, _, da, _, _, rfl, ha, c, T.na_Speller_e_entries, spF_e, _, rfl, b, _, db, _, _, rfl, hb, c, T.na_Speller_e_entries, spF_e, ?_⟩
    refine ⟨.tuple (es.map entD), .tuple (fs.map entD), .tup (SqT.of hua) (dp_ents pa), .tup (SqT.of hub) (dp_ents pb), shaped_ents oka, shaped_ents okb, ?_⟩
    have ev : PyData.eqv (.tuple (es.map entD)) (.tuple (fs.map entD)) = decide (es = fs) := by
      rw [PyData.eqv]
      exact eqvAll_map' eqv_ent es fs
    rw [ev]
    refine ⟨_, rfl, ?_⟩
    refine ite2 (fun z => ?_) (fun z => ?_)
    · have ee := of_decide_eq_true z
      refine ⟨_, rfl, a, _, da, _, _, rfl, ha, c, T.na_Speller_e_slips, spF_s, _, rfl, b, _, db, _, _, rfl, hb, c, T.na_Speller_e_slips, spF_s, ?_⟩
      obtain ⟨d1, h1⟩ := id sla
      obtain ⟨d2, h2⟩ := id slb
      refine ⟨Oth.same h2, sa, d1, _, rfl, h1, sa, sb, p, q, rfl, sla, slb, fun H' s' => ⟨_, rfl, ?_⟩⟩
      have := k H' s'
      rw [show decide (es = fs ∧ p = q) = decide (p = q) from decide_eq_decide.mpr ⟨fun h => h.2, fun h => ⟨ee, h⟩⟩] at this
      exact this
    · have := k H (Same.refl _)
      rw [decide_eq_false (fun h : es = fs ∧ p = q => z (decide_eq_true h.1))] at this
      exact this
def N_Speller_contains : List Str := ["self", "x", "entry"]
theorem sc_Speller_contains : FnScope N_Speller_contains ["self", "x"] (defScope (inClass (top 30) 6)) := ⟨rfl, rfl, rfl, by decide +kernel, rfl, by decide +kernel, by decide +kernel⟩
def spSpellerIn (K : PySem.W.Frag) : Sp := fun vs H Q _ => ∃ (a : Addr) (es : List Ent) (p : Sl) (x : List Nat), vs = [.ref a, .str (tx x)] ∧ SpellerAt K H a es p ∧ EsOk es ∧ ∀ H', Same H H' → Q (.bl (decide (x ∈ es.map Prod.fst))) H'
theorem c_Speller___contains__ (T : Tx P w K mg) : Mt P w K mg base CX0 1 (aSp K) "__contains__" (spSpellerIn K) := by
  have S := sc_Speller_contains
  refine mkMt0 T.d_Speller___contains__ T.cl_Speller T.me_Speller___contains__ S (fun _ _ _ _ _ _ us hl => match us, hl with | [_, _], _ => rfl) (fun vs H Q E h => ?_) (fun cdv A outer s H vs Q E hr h => ?_)
  · obtain ⟨a, es, p, x, rfl, _⟩ := h
    rfl
  · obtain ⟨a, es, p, x, rfl, ⟨da, ua, sa, ha, ⟨ra, hua, pa⟩, sla⟩, ok, k⟩ := h
    refine ⟨_, (pss_one (ps_ret (pe_and (pe_callB call_isi rfl T.n_isinstance bt_isinstance (pa_cons (pv 1) (pa_cons (pe_bltn (v := .ty "str") rfl T.n_str bt_str rfl) pa_nil))) (pe_one (pe_cmpR op_in_seq (pv 1) (pe_lc (own := [("entry", 2)]) (g := gName 2) (tt := tYes) (by rfl) S.nd (pi_tup (pe_fld (pv 0) rfl)) (blkOk_by (own := [("entry", 2)]) (N := N_Speller_contains) (sc := defScope (inClass (top 30) 6)) (by decide +kernel)) (fun _ _ _ _ _ => (pg_name (i := 2) S.nd rfl (Or.inl rfl))) (fun _ _ _ _ _ => pts_nil) (fun _ _ _ _ _ => (pe_ix (r := rIxT K) ix_tup (pv 2) pe_int (fun _ _ => rfl)))) rfl))))), ?_⟩
    have c := T.cl_Speller
    refine ⟨_, rfl, _, _, _, _, true, rfl, .ty _, .base (.str _), kit_ty (by decide +kernel), _, rfl, iteT ?_⟩
    refine ⟨_, rfl, _, rfl, a, _, da, _, _, rfl, ha, c, T.na_Speller_e_entries, spF_e, ua, rfl, ⟨ra, SqT.of hua⟩, fun D hD => ?_⟩
    have rl := pa.length
    refine lc_map es wordV (rl ▸ walk_tup (xs := ra)) (by have := ok.len; omega) hD (fun H' s => SqT.of (s _ _ hua)) (fun i a v H1 H2 Qe ha s1 y kk => ?_) (fun H1 s1 h1 => ?_)
    · obtain ⟨rfl, hv⟩ := y
      obtain ⟨e, he, ⟨ea, rfl, hea⟩⟩ := paired_at pa hv
      obtain rfl : a = e := by
        rw [ha] at he
        exact Option.some.inj he
      exact ⟨rfl, _, rfl, ea, _, _, _, rfl, rfl, SqT.of (s1 _ _ hea), atI_nat (j := 0) rfl, kk _ (Same.refl _)⟩
    · refine ⟨D, _, rfl, .inl (SqL.of h1), rfl, words_flat _, ?_⟩
      rw [inV_word]
      exact k _ s1
def N_Speller_getitem : List Str := ["self", "at"]
theorem sc_Speller_getitem : FnScope N_Speller_getitem ["self", "at"] (defScope (inClass (top 30) 7)) := ⟨rfl, rfl, rfl, by decide +kernel, rfl, by decide +kernel, by decide +kernel⟩
def spSpellerGet (K : PySem.W.Frag) : Sp := fun vs H Q _ => ∃ (a : Addr) (es : List Ent) (p : Sl) (x : List Nat), vs = [.ref a, .str (tx x)] ∧ SpellerAt K H a es p ∧ EsOk es ∧ AzL x ∧ ∀ (o : Option (List Nat)) H', Same H H' → MeantIs p x es o → Q (moV o) H'
theorem c_Speller___getitem__ (T : Tx P w K mg) : Mt P w K mg base CX0 8 (aSp K) "__getitem__" (spSpellerGet K) := by
  have S := sc_Speller_getitem
  have c_meant_word := @c_meant_word P w K mg base T
  refine mkMt0 T.d_Speller___getitem__ T.cl_Speller T.me_Speller___getitem__ S (fun _ _ _ _ _ _ us hl => match us, hl with | [_, _], _ => rfl) (fun vs H Q E h => ?_) (fun cdv A outer s H vs Q E hr h => ?_)
  · obtain ⟨a, es, p, x, rfl, _⟩ := h
    rfl
  · obtain ⟨a, es, p, x, rfl, ⟨da, ua, sa, ha, eu, sla⟩, ok, ax, k⟩ := h
    refine ⟨_, (pss_one (ps_ret (pe_f c_meant_word hr (by decide) rfl pass0 (pa_cons (pe_fld (pv 0) rfl) (pa_cons (pe_fld (pv 0) rfl) (pa_cons (pv 1) pa_nil)))))), ?_⟩
    have c := T.cl_Speller
    exact ⟨_, rfl, a, _, da, _, _, rfl, ha, c, T.na_Speller_e_entries, spF_e, _, rfl, a, _, da, _, _, rfl, ha, c, T.na_Speller_e_slips, spF_s, _, rfl, ua, sa, es, p, x, rfl, eu, sla, ok, ax, k⟩
def N_Speller_ranking : List Str := ["self", "text"]
theorem sc_Speller_ranking : FnScope N_Speller_ranking ["self", "text"] (defScope (inClass (top 30) 12)) := ⟨rfl, rfl, rfl, by decide +kernel, rfl, by decide +kernel, by decide +kernel⟩
def spSpellerRank (K : PySem.W.Frag) : Sp := fun vs H Q _ => ∃ (a : Addr) (es : List Ent) (p : Sl) (x : List Nat), vs = [.ref a, .str (tx x)] ∧ SpellerAt K H a es p ∧ EsOk es ∧ AzL x ∧
  ∀ (l : Addr) (refs : List V) (r : List (Int × List Nat)) H', Same H H' → H' l = some (.lst refs) → Paired (TpAt H') refs r → RankIs p x es r → Q (.ref l) H'
theorem c_Speller_ranking (T : Tx P w K mg) : Mt P w K mg base CX0 7 (aSp K) "ranking" (spSpellerRank K) := by
  have S := sc_Speller_ranking
  have c_ranking_of := @c_ranking_of P w K mg base T
  refine mkMt0 T.d_Speller_ranking T.cl_Speller T.me_Speller_ranking S (fun _ _ _ _ _ _ us hl => match us, hl with | [_, _], _ => rfl) (fun vs H Q E h => ?_) (fun cdv A outer s H vs Q E hr h => ?_)
  · obtain ⟨a, es, p, x, rfl, _⟩ := h
    rfl
  · obtain ⟨a, es, p, x, rfl, ⟨da, ua, sa, ha, eu, sla⟩, ok, ax, k⟩ := h
    refine ⟨_, (pss_one (ps_ret (pe_f c_ranking_of hr (by decide) rfl pass0 (pa_cons (pe_fld (pv 0) rfl) (pa_cons (pe_fld (pv 0) rfl) (pa_cons (pv 1) pa_nil)))))), ?_⟩
    have c := T.cl_Speller
    exact ⟨_, rfl, a, _, da, _, _, rfl, ha, c, T.na_Speller_e_entries, spF_e, _, rfl, a, _, da, _, _, rfl, ha, c, T.na_Speller_e_slips, spF_s, _, rfl, ua, sa, es, p, x, rfl, eu, sla, ok, ax, k⟩
/-! ### parts of tuples -/
theorem cutV_to {xs : List V} {i : Nat} : cutV xs none (some (i : Int)) = xs.take i := by
  have h1 : HT.sIx xs.length 0 none = 0 := rfl
  have h2 : HT.sIx xs.length xs.length (some (i : Int)) = min i xs.length := by
    show (if (i : Int) < 0 then ((i : Int) + (xs.length : Int)).toNat else min (i : Int).toNat xs.length) = _
    rw [if_neg (by omega)]
    rfl
  unfold cutV
  rw [h1, h2, List.drop_zero, Nat.sub_zero, ← List.take_take, List.take_length]
theorem cutV_from {xs : List V} {i : Nat} : cutV xs (some (i : Int)) none = xs.drop i := by
  have h1 : HT.sIx xs.length 0 (some (i : Int)) = min i xs.length := by
    show (if (i : Int) < 0 then ((i : Int) + (xs.length : Int)).toNat else min (i : Int).toNat xs.length) = _
    rw [if_neg (by omega)]
    rfl
  have h2 : HT.sIx xs.length xs.length none = xs.length := rfl
  unfold cutV
  rw [h1, h2]
  by_cases q : i ≤ xs.length
  · rw [Nat.min_eq_left q]
    exact List.take_of_length_le (by rw [List.length_drop]; omega)
  · rw [Nat.min_eq_right (by omega), List.drop_length, List.drop_eq_nil_of_le (by omega)]
    simp
theorem slA_of {B M H : Hp} {a : Addr} {xs : List V} {lo hi : Option Int} {Q : VK} (wd : Wd B M H) (h : B a = some (.tup xs)) (k : ∀ t B' H', Same B B' → Wd B' M H' → B' t = some (.tup (cutV xs lo hi)) → Q (.ref t) H') : rSlA K (.ref a) lo hi H Q := by
  refine ⟨a, xs, rfl, SqT.of (wd.b _ _ h), fun q => k a B H (Same.refl _) wd ?_, fun _ t ht => k t _ _ (wd.sb ht) (wd.new ht) upd_same⟩
  rw [h]
  congr 2
  unfold cutV
  rw [q.1, q.2, List.drop_zero, Nat.sub_zero, List.take_length]
theorem catA_of {B M H : Hp} {a b : Addr} {xs ys : List V} {Q : VK} (wd : Wd B M H) (ha : B a = some (.tup xs)) (hb : B b = some (.tup ys)) (hl : xs.length + ys.length ≤ 100000) (k : ∀ t B' H', Same B B' → Wd B' M H' → B' t = some (.tup (xs ++ ys)) → Q (.ref t) H') : rCatA K (.ref a) (.ref b) H Q := by
  refine ⟨a, b, xs, ys, rfl, rfl, SqT.of (wd.b _ _ ha), SqT.of (wd.b _ _ hb), Nat.le_of_lt (small_line hl), fun q => k b B H (Same.refl _) wd (by rw [q, List.nil_append]; exact hb), fun _ q => k a B H (Same.refl _) wd (by rw [q, List.append_nil]; exact ha), fun _ _ t ht => k t _ _ (wd.sb ht) (wd.new ht) upd_same⟩
theorem Paired.app {α β : Type} {F : α → β → Prop} {l l' : List α} {m m' : List β} (p : Paired F l m) (q : Paired F l' m') : Paired F (l ++ l') (m ++ m') := by
  induction p with
  | nil => exact q
  | cons h _ ih => exact .cons h ih
theorem Paired.take {α β : Type} {F : α → β → Prop} {l : List α} {m : List β} (p : Paired F l m) (n : Nat) : Paired F (l.take n) (m.take n) := by
  induction p generalizing n with
  | nil => simpa using .nil
  | cons h _ ih =>
    cases n with
    | zero => exact .nil
    | succ n => exact .cons h (ih n)
theorem Paired.drop {α β : Type} {F : α → β → Prop} {l : List α} {m : List β} (p : Paired F l m) (n : Nat) : Paired F (l.drop n) (m.drop n) := by
  induction p generalizing n with
  | nil => simpa using .nil
  | cons h r ih =>
    cases n with
    | zero => exact .cons h r
    | succ n => exact ih n
def N_Speller_sub : List Str := ["self", "other", "at"]
theorem sc_Speller_sub : FnScope N_Speller_sub ["self", "other"] (defScope (inClass (top 30) 9)) := ⟨rfl, rfl, rfl, by decide +kernel, rfl, by decide +kernel, by decide +kernel⟩
def lessEs (es : List Ent) (i : Nat) : List Ent := es.take i ++ es.drop (i + 1)
def setEs (es : List Ent) (i : Nat) (e : Ent) : List Ent := es.take i ++ [e] ++ es.drop (i + 1)
theorem lessEs_ok {es : List Ent} {i : Nat} (ok : EsOk es) : EsOk (lessEs es i) := by
  have hs : (lessEs es i).Sublist es := by
    have h1 : (es.take i ++ es.drop (i + 1)).Sublist (es.take i ++ es.drop i) := List.Sublist.append (List.Sublist.refl _) (List.drop_sublist_drop_left es (Nat.le_succ i))
    rw [List.take_append_drop] at h1
    exact h1
  exact ⟨Nat.le_trans hs.length_le ok.len, fun e he => ok.all e (hs.subset he), ok.nd.sublist (hs.map _)⟩
def spSpellerSub (K : PySem.W.Frag) : Sp := fun vs H Q _ => ∃ (B M : Hp) (a : Addr) (es : List Ent) (p : Sl) (x : List Nat) (i : Nat), vs = [.ref a, .str (tx x)] ∧ Wd B M H ∧ SpellerAt K B a es p ∧ EsOk es ∧ (es.map Prod.fst)[i]? = some x ∧
  ∀ B' b H', Same B B' → Wd B' M H' → SpellerAt K B' b (lessEs es i) p → Q (.ref b) H'
theorem c_Speller___sub__ (T : Tx P w K mg) : Mt P w K mg base CX0 7 (aSp K) "__sub__" (spSpellerSub K) := by
  have S := sc_Speller_sub
  have c_place_of := @c_place_of P w K mg base T
  have c_Speller := @c_Speller P w K mg base T
  refine mkMt0 T.d_Speller___sub__ T.cl_Speller T.me_Speller___sub__ S (fun _ _ _ _ _ _ us hl => match us, hl with | [_, _], _ => rfl) (fun vs H Q E h => ?_) (fun cdv A outer s H vs Q E hr h => ?_)
  · obtain ⟨B, M, a, es, p, x, i, rfl, _⟩ := h
    rfl
  · obtain ⟨B, M, a, es, p, x, i, rfl, wd, ⟨da, ua, sa, ha, ⟨ra, hua, pa⟩, sla⟩, ok, hi, k⟩ := h
    refine ⟨_, (pss_cons (ps_set (i := 2) S.nd rfl (Or.inl rfl) (pe_f c_place_of hr (by decide) rfl pass0 (pa_cons (pe_fld (pv 0) rfl) (pa_cons (pv 1) pa_nil))))
    (pss_one (ps_ret (pe_n c_Speller hr (by decide) rfl passN (pa_cons (pe_op op_catA (pe_slice sl_tupA (pe_fld (pv 0) rfl) po_none (po_some (pv 2))) (pe_slice sl_tupA (pe_fld (pv 0) rfl) (po_some (pe_op op_add (pv 2) pe_int)) po_none)) (pa_cons (pe_fld (pv 0) rfl) pa_nil)))))), ?_⟩
    have c := T.cl_Speller
    have rl := pa.length
    have hl := ok.len
    refine ⟨_, rfl, a, _, da, _, _, rfl, wd.b _ _ ha, c, T.na_Speller_e_entries, spF_e, _, rfl, ua, es, x, i, rfl, ⟨ra, wd.b _ _ hua, ents_mono pa wd.b⟩, hl, hi, ok.nd, fun H1 s1 => ?_⟩
    have w1 := wd.mono s1
    refine ⟨_, rfl, a, _, da, _, _, rfl, w1.b _ _ ha, c, T.na_Speller_e_entries, spF_e, _, rfl, _, rfl, slA_of w1 hua fun t1 B2 H2 s2 w2 ht1 => ?_⟩
    refine ⟨_, rfl, a, _, da, _, _, rfl, w2.b _ _ (s2 _ _ ha), c, T.na_Speller_e_entries, spF_e, _, rfl, _, _, rfl, rfl, _, rfl, ?_⟩
    dsimp only [tNoPart]
    refine slA_of (lo := some ((i : Int) + 1)) (hi := none) w2 (s2 _ _ hua) fun t2 B3 H3 s3 w3 ht2 => ?_
    rw [cutV_to] at ht1
    rw [show (i : Int) + 1 = ((i + 1 : Nat) : Int) by omega, cutV_from] at ht2
    refine catA_of w3 (s3 _ _ ht1) ht2 (by rw [List.length_take, List.length_drop]; omega) fun t3 B4 H4 s4 w4 ht3 => ?_
    have s24 := (s2.trans s3).trans s4
    refine ⟨_, rfl, a, _, da, _, _, rfl, w4.b _ _ (s24 _ _ ha), c, T.na_Speller_e_slips, spF_s, fun x' dx' hx' hd' ne' => ?_⟩
    have lo := lessEs_ok (i := i) ok
    have pl : Paired (EntAt B4) (ra.take i ++ ra.drop (i + 1)) (lessEs es i) := Paired.mapP (Paired.app (Paired.take pa i) (Paired.drop pa (i + 1))) fun _ _ h => h.mono s24
    refine speller_made w4 hx' hd' ne' (.inr ht3) pl (by rw [List.take_of_length_le lo.len]; exact lo) (Nat.le_succ_of_le lo.len) (.inr ⟨sa, rfl, sla.mono s24⟩) (fun _ B5 H5 s5 w5 sp => ?_) (fun h5 => absurd lo.len (by omega))
    exact k B5 x' H5 (s24.trans s5) w5 sp
def N_Speller_with_own : List Str := ["self", "word", "own", "at"]
theorem sc_Speller_with_own : FnScope N_Speller_with_own ["self", "word", "own"] (defScope (inClass (top 30) 10)) := ⟨rfl, rfl, rfl, by decide +kernel, rfl, by decide +kernel, by decide +kernel⟩
theorem setEs_ok {es : List Ent} {i : Nat} {e : Ent} (ok : EsOk es) (hi : (es.map Prod.fst)[i]? = some e.1) (he : EntOk e) : EsOk (setEs es i e) := by
  have hl : i < es.length := by simpa using (List.getElem?_eq_some_iff.mp hi).1
  have hm : (setEs es i e).map Prod.fst = es.map Prod.fst := by
    unfold setEs
    rw [List.map_append, List.map_append, List.map_take, List.map_drop]
    have : (es.map Prod.fst).take i ++ [e.1] = (es.map Prod.fst).take (i + 1) := (take_snoc hi).symm
    show (es.map Prod.fst).take i ++ [e.1] ++ (es.map Prod.fst).drop (i + 1) = _
    rw [this, List.take_append_drop]
  have hn : (setEs es i e).length = es.length := by
    have := congrArg List.length hm
    rwa [List.length_map, List.length_map] at this
  refine ⟨by rw [hn]; exact ok.len, fun f hf => ?_, by rw [hm]; exact ok.nd⟩
  unfold setEs at hf
  rcases List.mem_append.mp hf with hf | hf
  · rcases List.mem_append.mp hf with hf | hf
    · exact ok.all f (List.mem_of_mem_take hf)
    · rw [List.mem_singleton.mp hf]
      exact he
  · exact ok.all f (List.mem_of_mem_drop hf)
def spSpellerOwn (K : PySem.W.Frag) : Sp := fun vs H Q _ => ∃ (B M : Hp) (a : Addr) (es : List Ent) (p : Sl) (e : Ent) (i : Nat), vs = [.ref a, .str (tx e.1), .int e.2] ∧ Wd B M H ∧ SpellerAt K B a es p ∧ EsOk es ∧ (es.map Prod.fst)[i]? = some e.1 ∧ EntOk e ∧
  ∀ B' b H', Same B B' → Wd B' M H' → SpellerAt K B' b (setEs es i e) p → Q (.ref b) H'
theorem c_Speller_with_own (T : Tx P w K mg) : Mt P w K mg base CX0 7 (aSp K) "with_own" (spSpellerOwn K) := by
  have S := sc_Speller_with_own
  have c_place_of := @c_place_of P w K mg base T
  have c_is_own := @c_is_own P w K mg base T
  have c_Speller := @c_Speller P w K mg base T
  refine mkMt0 T.d_Speller_with_own T.cl_Speller T.me_Speller_with_own S (fun _ _ _ _ _ _ us hl => match us, hl with | [_, _, _], _ => rfl) (fun vs H Q E h => ?_) (fun cdv A outer s H vs Q E hr h => ?_)
  · obtain ⟨B, M, a, es, p, e, i, rfl, _⟩ := h
    rfl
  · obtain ⟨B, M, a, es, p, e, i, rfl, wd, ⟨da, ua, sa, ha, ⟨ra, hua, pa⟩, sla⟩, ok, hi, hok, k⟩ := h
    refine ⟨_, (pss_cons (ps_set (i := 3) S.nd rfl (Or.inl rfl) (pe_f c_place_of hr (by decide) rfl pass0 (pa_cons (pe_fld (pv 0) rfl) (pa_cons (pv 1) pa_nil))))
    (pss_cons (ps_if (pt_not (pt_val (pe_f c_is_own hr (by decide) rfl pass0 (pa_cons (pv 2) pa_nil)))) pss_never pss_nil)
    (pss_one (ps_ret (pe_n c_Speller hr (by decide) rfl passN (pa_cons (pe_op op_catA (pe_op op_catA (pe_slice sl_tupA (pe_fld (pv 0) rfl) po_none (po_some (pv 3))) (pe_tup (pa_cons (pe_tup (pa_cons (pv 1) (pa_cons (pv 2) pa_nil))) pa_nil))) (pe_slice sl_tupA (pe_fld (pv 0) rfl) (po_some (pe_op op_add (pv 3) pe_int)) po_none)) (pa_cons (pe_fld (pv 0) rfl) pa_nil))))))), ?_⟩
    have c := T.cl_Speller
    have rl := pa.length
    have hl := ok.len
    refine ⟨_, rfl, a, _, da, _, _, rfl, wd.b _ _ ha, c, T.na_Speller_e_entries, spF_e, _, rfl, ua, es, e.1, i, rfl, ⟨ra, wd.b _ _ hua, ents_mono pa wd.b⟩, hl, hi, ok.nd, fun H1 s1 => ?_⟩
    have w1 := wd.mono s1
    refine ⟨_, rfl, e.2, rfl, hok.o0, hok.o9, _, rfl, iteF ?_⟩
    refine ⟨_, rfl, a, _, da, _, _, rfl, w1.b _ _ ha, c, T.na_Speller_e_entries, spF_e, _, rfl, _, rfl, slA_of w1 hua fun t1 B2 H2 s2 w2 ht1 => ?_⟩
    rw [cutV_to] at ht1
    refine ⟨_, rfl, _, rfl, sz2, fun ea hea => ⟨sz1, fun ta hta => ?_⟩⟩
    have w3 := (w2.new hea (o := .tup [.str (tx e.1), .int e.2])).new hta (o := .tup [.ref ea])
    have s3 : Same B2 (upd (upd B2 ea (.tup [.str (tx e.1), .int e.2])) ta (.tup [.ref ea])) := (w2.sb hea).trans ((w2.new hea).sb hta)
    have hent : EntAt (upd (upd B2 ea (.tup [.str (tx e.1), .int e.2])) ta (.tup [.ref ea])) (.ref ea) e := ⟨ea, rfl, (w2.new hea).sb hta _ _ upd_same⟩
    refine catA_of w3 (s3 _ _ ht1) upd_same (by rw [List.length_take]; simp; omega) fun t3 B4 H4 s4 w4 ht3 => ?_
    have s24 := (s2.trans s3).trans s4
    refine ⟨_, rfl, a, _, da, _, _, rfl, w4.b _ _ (s24 _ _ ha), c, T.na_Speller_e_entries, spF_e, _, rfl, _, _, rfl, rfl, _, rfl, ?_⟩
    dsimp only [tNoPart]
    refine slA_of (lo := some ((i : Int) + 1)) (hi := none) w4 (s24 _ _ hua) fun t5 B5 H5 s5 w5 ht5 => ?_
    rw [show (i : Int) + 1 = ((i + 1 : Nat) : Int) by omega, cutV_from] at ht5
    refine catA_of w5 (s5 _ _ ht3) ht5 (by rw [List.length_append, List.length_take, List.length_drop]; simp; omega) fun t6 B6 H6 s6 w6 ht6 => ?_
    have s26 := (s24.trans s5).trans s6
    refine ⟨_, rfl, a, _, da, _, _, rfl, w6.b _ _ (s26 _ _ ha), c, T.na_Speller_e_slips, spF_s, fun x' dx' hx' hd' ne' => ?_⟩
    have lo := setEs_ok ok hi hok
    have pl : Paired (EntAt B6) (ra.take i ++ [.ref ea] ++ ra.drop (i + 1)) (setEs es i e) := Paired.app (Paired.app (Paired.mapP (Paired.take pa i) fun _ _ h => h.mono s26) (.cons (hent.mono ((s4.trans s5).trans s6)) .nil)) (Paired.mapP (Paired.drop pa (i + 1)) fun _ _ h => h.mono s26)
    refine speller_made w6 hx' hd' ne' (.inr ht6) pl (by rw [List.take_of_length_le lo.len]; exact lo) (Nat.le_succ_of_le lo.len) (.inr ⟨sa, rfl, sla.mono s26⟩) (fun _ B7 H7 s7 w7 sp => ?_) (fun h5 => absurd lo.len (by omega))
    exact k B7 x' H7 (s26.trans s7) w7 sp
end
end Mw
/-! W11: deeds, moments -/
namespace Mw
open PySem PySem.Spec PyProof.Rows L2
/-! ### PARTS.get -/
def tParts (ty tx : TE) : TE := fun σ H Q => ty σ H fun y H1 => tx σ H1 fun _ H2 => ∃ q ∈ partL, y = .str q.1 ∧ Q (.int q.2) H2
theorem pe_parts {X : Cx} {e f : Expr} {p apos cpos : Pos} {ty tx : TE} (T : Tx X.prog X.w X.K X.mg) (hg : Gl X "PARTS") (he : PE X e ty) (hf : PE X f tx) (m : M2 X (.Name "PARTS" p) "get" apos e f cpos := by exact ⟨rfl, rfl, rfl, rfl⟩) :
    PE X (.Call (.Attribute (.Name "PARTS" p) "get" apos) [e, f] [] cpos) (tParts ty tx) := by
  obtain ⟨a, hm, hs, hk⟩ := T.k_PARTS
  refine ⟨fun pins s σ H Q I h => ?_⟩
  have hn : PE X (.Name "PARTS" p) (tC (.ref a)) := pe_glob (v := .ref a) hg hm rfl
  refine wpAny_Call_method m.base m.few m.line PySem.F.plainAttrs_dict PySem.F.slot_dict_get PySem.F.type_dict_get (thn (hn.run pins s σ H (fun x H1 => x = .ref a ∧ tParts ty tx σ H1 Q) I ⟨rfl, h⟩) fun u s1 ⟨x, H1, I1, rx, ex, q1⟩ => ?_)
  subst ex
  obtain rfl : u = Value.ref a := rx
  obtain ⟨es, n, _, hl, hkl, _, _⟩ := hk ("press", 2) (by simp [partL])
  have hm1 := PySem.W.mapOf_K (prog := X.prog) (w := X.w) I1.kIn hl hkl
  refine ⟨hm1.typeIs, hm1.noDict, ?_⟩
  rw [m.trees]
  refine Calls.callWith_builtin rfl (Calls.evalArgs_plain (Calls.spliced_cons (thn (he.run pins s1 σ H1 _ I1 q1) fun iv s2 ⟨y, H2, I2, ry, q2⟩ =>
    Calls.spliced_cons (thn (hf.run pins s2 σ H2 _ I2 q2) fun fv s3 ⟨z, H3, I3, rz, q, hq, ey, q3⟩ => Calls.spliced_nil ?_))))
  subst ey
  obtain ⟨t, rfl⟩ := ry
  obtain ⟨es', n', u, hl', hkl', e', ru⟩ := hk q hq
  rw [hl] at hl'
  cases hl'
  have hm3 := PySem.W.mapOf_K (prog := X.prog) (w := X.w) I3.kIn hl hkl
  refine call_meetsIn PySem.F.slot_dict_get hm3.typeIs PySem.F.entry_dict_get (PySem.F.args_dict_get_3 _ _ _) (meets_dict_get_default (strKind X.prog X.w) a (strKind_is X.prog X.w q.1 t) hs fv) ⟨_, hm3, ⟨.int q.2, H3, I3.tok _, ?_, q3⟩⟩
  rw [PySem.W.find_K hl e']
  exact ru
end Mw
/-! W12: deeds, moments -/
namespace Mw
open PySem PySem.Spec PyProof.Rows L2
inductive Deed where
  | press (y : List Nat)
  | back (n : Int)
  | learn (e : Ent)
  | forget (y : List Nat)
  | slips (p : Sl)
  deriving DecidableEq
def Deed.vals : Deed → List V
  | .press y => [.str "press", .str (tx y)]
  | .back n => [.str "back", .int n]
  | .learn e => [.str "learn", .str (tx e.1), .int e.2]
  | .forget y => [.str "forget", .str (tx y)]
  | .slips p => [.str "slips", .int p.ex, .int p.mi, .int p.wr, swV p.sw]
def Deed.datas : Deed → List PyData
  | .press y => [.str "press", wd y]
  | .back n => [.str "back", .int n]
  | .learn e => [.str "learn", wd e.1, .int e.2]
  | .forget y => [.str "forget", wd y]
  | .slips p => [.str "slips", .int p.ex, .int p.mi, .int p.wr, swD p.sw]
def Deed.data (d : Deed) : PyData := .tuple d.datas
/-- what a deed holds is in order -/
def Deed.Az : Deed → Prop
  | .press y => ∀ c ∈ y, c ≤ 122
  | .learn e => ∀ c ∈ e.1, c ≤ 122
  | .forget y => ∀ c ∈ y, c ≤ 122
  | _ => True
structure Sh where
  es : List Ent
  p : Sl
  x : List Nat
  deriving DecidableEq
abbrev Sh.names (s : Sh) : List (List Nat) := s.es.map Prod.fst
structure ShOk (s : Sh) : Prop where
  es : EsOk s.es
  p : s.p.Ok
  az : ∀ c ∈ s.x, 97 ≤ c ∧ c ≤ 122
  l : s.x.length ≤ 400
theorem ShOk.azl {s : Sh} (h : ShOk s) : AzL s.x := ⟨h.az, Nat.le_trans h.l (by decide)⟩
inductive Stepd : Sh → Deed → Sh → Prop where
  | press {es : List Ent} {p : Sl} {x y : List Nat} : AzL y → x.length + y.length ≤ 400 → Stepd ⟨es, p, x⟩ (.press y) ⟨es, p, x ++ y⟩
  | back {es : List Ent} {p : Sl} {x : List Nat} {n : Nat} : 1 ≤ n → n ≤ x.length → Stepd ⟨es, p, x⟩ (.back (n : Int)) ⟨es, p, x.take (x.length - n)⟩
  | old {es : List Ent} {p : Sl} {x : List Nat} {e : Ent} {i : Nat} : (es.map Prod.fst)[i]? = some e.1 → EntOk e → Stepd ⟨es, p, x⟩ (.learn e) ⟨setEs es i e, p, x⟩
  | new {es : List Ent} {p : Sl} {x : List Nat} {e : Ent} : ¬ e.1 ∈ es.map Prod.fst → EntOk e → es.length < 4 → Stepd ⟨es, p, x⟩ (.learn e) ⟨es ++ [e], p, x⟩
  | forget {es : List Ent} {p : Sl} {x y : List Nat} {i : Nat} : (es.map Prod.fst)[i]? = some y → Stepd ⟨es, p, x⟩ (.forget y) ⟨lessEs es i, p, x⟩
  | slips {es : List Ent} {p q : Sl} {x : List Nat} : q.Ok → Stepd ⟨es, p, x⟩ (.slips q) ⟨es, q, x⟩
inductive Refused : Sh → Deed → Prop where
  | full {es : List Ent} {p : Sl} {x : List Nat} {e : Ent} : ¬ e.1 ∈ es.map Prod.fst → EntOk e → es.length = 4 → Refused ⟨es, p, x⟩ (.learn e)
theorem newEs_ok {es : List Ent} {e : Ent} (ok : EsOk es) (h : ¬ e.1 ∈ es.map Prod.fst) (he : EntOk e) (hl : es.length < 4) : EsOk (es ++ [e]) := by
  refine ⟨by rw [List.length_append]; simp; omega, fun f hf => ?_, ?_⟩
  · rcases List.mem_append.mp hf with hf | hf
    · exact ok.all f hf
    · rw [List.mem_singleton.mp hf]
      exact he
  · rw [List.map_append, List.nodup_append]
    refine ⟨ok.nd, by simp, fun a ha b hb => ?_⟩
    have : b = e.1 := by simpa using hb
    rw [this]
    exact fun z => h (z ▸ ha)
theorem Stepd.ok {s s' : Sh} {d : Deed} (st : Stepd s d s') (h : ShOk s) : ShOk s' := by
  cases st with
  | press hy hl => exact ⟨h.es, h.p, fun c hc => (List.mem_append.mp hc).elim (h.az c) (hy.1 c), by rw [List.length_append]; exact hl⟩
  | back h1 h2 => exact ⟨h.es, h.p, fun c hc => h.az c (List.mem_of_mem_take hc), by have := h.l; rw [List.length_take]; dsimp only at this ⊢; omega⟩
  | old h1 h2 => exact ⟨setEs_ok h.es h1 h2, h.p, h.az, h.l⟩
  | new h1 h2 h3 => exact ⟨newEs_ok h.es h1 h2 h3, h.p, h.az, h.l⟩
  | forget h1 => exact ⟨lessEs_ok h.es, h.p, h.az, h.l⟩
  | slips hq => exact ⟨h.es, hq, h.az, h.l⟩
theorem dp_sw {K : PySem.W.Frag} (o : Option Int) (H : Hp) : Dp K H (swV o) (swD o) := by
  cases o with
  | none => exact .non
  | some i => exact .int i
theorem dp_deed {K : PySem.W.Frag} (d : Deed) (H : Hp) : DpAll K H d.vals d.datas := by
  cases d with
  | press y => exact .cons (.str _) (.cons (.str _) .nil)
  | back n => exact .cons (.str _) (.cons (.int _) .nil)
  | learn e => exact .cons (.str _) (.cons (.str _) (.cons (.int _) .nil))
  | forget y => exact .cons (.str _) (.cons (.str _) .nil)
  | slips p => exact .cons (.str _) (.cons (.int _) (.cons (.int _) (.cons (.int _) (.cons (dp_sw _ _) .nil))))
theorem lay_str {x : Str} (h : (PyData.str x).canLay0 = true) : PyData.canLay0 (.str x) = true := h
theorem lay_deed {d : Deed} (h : d.Az) : d.data.canLay0 = true := by
  have k1 : PyData.strOk (PySem.Str.ofString "press") = true := by decide +kernel
  have k2 : PyData.strOk (PySem.Str.ofString "back") = true := by decide +kernel
  have k3 : PyData.strOk (PySem.Str.ofString "learn") = true := by decide +kernel
  have k4 : PyData.strOk (PySem.Str.ofString "forget") = true := by decide +kernel
  have k5 : PyData.strOk (PySem.Str.ofString "slips") = true := by decide +kernel
  cases d with
  | press y => simp only [Deed.data, Deed.datas, PyData.canLay0, PyData.canLayAll0, lay_wd h]; rw [k1]; rfl
  | back n => simp only [Deed.data, Deed.datas, PyData.canLay0, PyData.canLayAll0]; rw [k2]; rfl
  | learn e => simp only [Deed.data, Deed.datas, PyData.canLay0, PyData.canLayAll0, lay_wd h]; rw [k3]; rfl
  | forget y => simp only [Deed.data, Deed.datas, PyData.canLay0, PyData.canLayAll0, lay_wd h]; rw [k4]; rfl
  | slips p =>
    obtain ⟨a, b, c, o⟩ := p
    cases o <;> simp only [Deed.data, Deed.datas, swD, PyData.canLay0, PyData.canLayAll0] <;> (rw [k5]; rfl)
theorem depth_deed (d : Deed) : d.data.depth = 1 := by
  cases d with
  | slips p =>
    obtain ⟨a, b, c, o⟩ := p
    cases o <;> simp [Deed.data, Deed.datas, swD, PyData.depth, PyData.depthAll]
  | _ => simp [Deed.data, Deed.datas, wd, PyData.depth, PyData.depthAll]
theorem eqv_deed (d e : Deed) : PyData.eqv d.data e.data = decide (d = e) := by
  have n_press_back : (PySem.Str.ofString "press" == PySem.Str.ofString "back") = false := by decide +kernel
  have n_press_learn : (PySem.Str.ofString "press" == PySem.Str.ofString "learn") = false := by decide +kernel
  have n_press_forget : (PySem.Str.ofString "press" == PySem.Str.ofString "forget") = false := by decide +kernel
  have n_press_slips : (PySem.Str.ofString "press" == PySem.Str.ofString "slips") = false := by decide +kernel
  have n_back_press : (PySem.Str.ofString "back" == PySem.Str.ofString "press") = false := by decide +kernel
  have n_back_learn : (PySem.Str.ofString "back" == PySem.Str.ofString "learn") = false := by decide +kernel
  have n_back_forget : (PySem.Str.ofString "back" == PySem.Str.ofString "forget") = false := by decide +kernel
  have n_back_slips : (PySem.Str.ofString "back" == PySem.Str.ofString "slips") = false := by decide +kernel
  have n_learn_press : (PySem.Str.ofString "learn" == PySem.Str.ofString "press") = false := by decide +kernel
  have n_learn_back : (PySem.Str.ofString "learn" == PySem.Str.ofString "back") = false := by decide +kernel
  have n_learn_forget : (PySem.Str.ofString "learn" == PySem.Str.ofString "forget") = false := by decide +kernel
  have n_learn_slips : (PySem.Str.ofString "learn" == PySem.Str.ofString "slips") = false := by decide +kernel
  have n_forget_press : (PySem.Str.ofString "forget" == PySem.Str.ofString "press") = false := by decide +kernel
  have n_forget_back : (PySem.Str.ofString "forget" == PySem.Str.ofString "back") = false := by decide +kernel
  have n_forget_learn : (PySem.Str.ofString "forget" == PySem.Str.ofString "learn") = false := by decide +kernel
  have n_forget_slips : (PySem.Str.ofString "forget" == PySem.Str.ofString "slips") = false := by decide +kernel
  have n_slips_press : (PySem.Str.ofString "slips" == PySem.Str.ofString "press") = false := by decide +kernel
  have n_slips_back : (PySem.Str.ofString "slips" == PySem.Str.ofString "back") = false := by decide +kernel
  have n_slips_learn : (PySem.Str.ofString "slips" == PySem.Str.ofString "learn") = false := by decide +kernel
  have n_slips_forget : (PySem.Str.ofString "slips" == PySem.Str.ofString "forget") = false := by decide +kernel
  have sl := eqv_sl
  cases d <;> cases e <;> simp only [Deed.data, Deed.datas, PyData.eqv, PyData.eqvAll, n_press_back, n_press_learn, n_press_forget, n_press_slips, n_back_press, n_back_learn, n_back_forget, n_back_slips, n_learn_press, n_learn_back, n_learn_forget, n_learn_slips, n_forget_press, n_forget_back, n_forget_learn, n_forget_slips, n_slips_press, n_slips_back, n_slips_learn, n_slips_forget, eqv_wd, Bool.false_and, beq_self_eq_true, Bool.true_and, Bool.and_true]
  case press.press a b => simp
  case back.back a b => simp; rw [Bool.eq_iff_iff]; simp
  case forget.forget a b => simp
  case learn.learn a b =>
    have := eqv_ent a b
    unfold entD at this
    simp only [PyData.eqv, PyData.eqvAll, eqv_wd, Bool.and_true] at this
    rw [this]
    simp
  case slips.slips a b =>
    have := eqv_sl a b
    simp only [PyData.eqv, PyData.eqvAll, Bool.and_true] at this
    rw [this]
    simp
  all_goals simp
def DeedAt (H : Hp) (v : V) (d : Deed) : Prop := ∃ a, v = .ref a ∧ H a = some (.tup d.vals)
theorem DeedAt.monoN {H H' : Hp} {v : V} {d : Deed} (h : DeedAt H v d) (s : SameN H H') : DeedAt H' v d := by
  obtain ⟨a, h1, h2⟩ := h
  exact ⟨a, h1, s _ _ h2 (fun l z => by cases z)⟩
section
variable {P : Program} {w : World} {K : PySem.W.Frag} {mg : Str → Option Value} {base : Heap}
def N_is_deed : List Str := ["thing"]
theorem sc_is_deed : FnScope N_is_deed ["thing"] (defScope (top 39)) := ⟨rfl, rfl, rfl, by decide +kernel, rfl, by decide +kernel, by decide +kernel⟩
/-- a deed's values or the undo's -/
def spIsDeed : Sp := fun vs H Q _ => ∃ (a : Addr) (ws : List V) (ds : List PyData) (q : Str × Int) (rest : List V), vs = [.ref a] ∧ H a = some (.tup ws) ∧ ws = .str q.1 :: rest ∧ q ∈ partL ∧ (ws.length : Int) = q.2 ∧ (∀ (K : PySem.W.Frag) H, DpAll K H ws ds) ∧ SeqAt.shaped (.tuple ds) = true ∧ ∀ H', Same H H' → Q (.bl true) H'
theorem c_is_deed (T : Tx P w K mg) : Cl P w K mg base CX0 1 "is_deed" spIsDeed := by
  have S := sc_is_deed
  refine mkCl0 T.d_is_deed T.gf_is_deed S (fun _ _ _ _ _ _ us hl => match us, hl with | [_], _ => rfl) (fun vs H Q E h => ?_) (fun cdv A outer s H vs Q E hr h => ?_)
  · obtain ⟨a, ws, ds, q, rest, rfl, _⟩ := h
    rfl
  · obtain ⟨a, ws, ds, q, rest, rfl, ha, rfl, hq, hl, dp, sh, k⟩ := h
    refine ⟨_, (pss_cons (ps_if (PW.pt (pw_or (pt_not (pt_val (pe_callB call_isi rfl T.n_isinstance bt_isinstance (pa_cons (pv 0) (pa_cons (pe_bltn (v := .ty "tuple") rfl T.n_tuple bt_tuple rfl) pa_nil))))) (pw_or (pt_cmpR (op_eqD hr.units) (pv 0) (pe_tup pa_nil) (nomark _)) (pw_or1 (pt_not (pt_val (pe_callB call_isi rfl T.n_isinstance bt_isinstance (pa_cons (pe_ix ix_tup (pv 0) pe_int (fun _ _ => rfl)) (pa_cons (pe_bltn (v := .ty "str") rfl T.n_str bt_str rfl) pa_nil))))))))) (pss_one (ps_ret pe_bl)) pss_nil)
    (pss_one (ps_ret (pe_cmpR op_eq (pe_parts T rfl (pe_ix ix_tup (pv 0) pe_int (fun _ _ => rfl)) pe_int) (pe_callB call_len_seq rfl T.n_len bt_len (pa_cons (pv 0) pa_nil)) (nomark _))))), ?_⟩
    refine ⟨_, rfl, _, _, _, _, true, rfl, .ty _, .base (.tup ha), kit_ty (by decide +kernel), _, rfl, iteF ?_⟩
    refine ⟨_, rfl, sz0, fun e he => ?_⟩
    have se : Same H (upd H e (.tup [])) := Same.new he
    have ha2 := se _ _ ha
    refine ⟨.tuple ds, .tuple [], .tup (SqT.of ha2) (dp _ _), .tup (SqT.of upd_same) .nil, sh, by decide, ?_⟩
    have ev : PyData.eqv (.tuple ds) (.tuple []) = false := by
      cases ds with
      | nil => cases dp K H
      | cons d ds => simp [PyData.eqv, PyData.eqvAll]
    rw [ev]
    refine ⟨_, rfl, iteF ?_⟩
    refine ⟨_, rfl, a, _, _, _, rfl, rfl, SqT.of ha2, atI_nat (j := 0) rfl, _, _, _, _, true, rfl, .ty _, .base (.str q.1), kit_ty (by decide +kernel), _, rfl, iteF ?_⟩
    refine ⟨_, rfl, a, _, _, _, rfl, rfl, SqT.of ha2, atI_nat (j := 0) rfl, q, hq, rfl, _, rfl, a, _, rfl, .inr (SqT.of ha2), rfl, ?_⟩
    show Q (V.bl (decide (V.int q.2 = V.int (((V.str q.1 :: rest).length : Nat) : Int)))) _
    rw [decide_eq_true (by rw [hl])]
    exact k _ se
theorem spIsDeed_deed {H : Hp} {a : Addr} {d : Deed} {Q : VK} {E : XK} (h : H a = some (.tup d.vals)) (az : d.Az) (k : ∀ H', Same H H' → Q (.bl true) H') : spIsDeed [.ref a] H Q E := by
  have sh : SeqAt.shaped (.tuple d.datas) = true := shaped_of (lay_deed az) (by have := depth_deed d; unfold Deed.data at this; omega)
  cases d with
  | press y => exact ⟨a, _, _, ("press", 2), _, rfl, h, rfl, by simp [partL], rfl, fun _ _ => dp_deed _ _, sh, k⟩
  | back n => exact ⟨a, _, _, ("back", 2), _, rfl, h, rfl, by simp [partL], rfl, fun _ _ => dp_deed _ _, sh, k⟩
  | learn e => exact ⟨a, _, _, ("learn", 3), _, rfl, h, rfl, by simp [partL], rfl, fun _ _ => dp_deed _ _, sh, k⟩
  | forget y => exact ⟨a, _, _, ("forget", 2), _, rfl, h, rfl, by simp [partL], rfl, fun _ _ => dp_deed _ _, sh, k⟩
  | slips p => exact ⟨a, _, _, ("slips", 5), _, rfl, h, rfl, by simp [partL], rfl, fun _ _ => dp_deed _ _, sh, k⟩
theorem spIsDeed_undo {H : Hp} {a : Addr} {Q : VK} {E : XK} (h : H a = some (.tup [.str "undo"])) (k : ∀ H', Same H H' → Q (.bl true) H') : spIsDeed [.ref a] H Q E :=
  ⟨a, _, [.str "undo"], ("undo", 1), _, rfl, h, rfl, by simp [partL], rfl, fun _ _ => .cons (.str _) .nil, by decide +kernel, k⟩
/-! ### moments -/
abbrev aMo (K : PySem.W.Frag) : Addr := He.ga K "Moment"
def moF (sp : Addr) (x : List Nat) (d b : V) : List (Str × V) := [("q_speller", .ref sp), ("q_text", .str (tx x)), ("q_deed", d), ("q_before", b)]
theorem moF_s {sp : Addr} {x : List Nat} {d b : V} : (moF sp x d b).lookup ("q_speller" : Str) = some (.ref sp) := look_eq
theorem moF_t {sp : Addr} {x : List Nat} {d b : V} : (moF sp x d b).lookup ("q_text" : Str) = some (.str (tx x)) := by
  unfold moF
  rw [look_ne (by decide +kernel), look_eq]
theorem moF_d {sp : Addr} {x : List Nat} {d b : V} : (moF sp x d b).lookup ("q_deed" : Str) = some d := by
  unfold moF
  rw [look_ne (by decide +kernel), look_ne (by decide +kernel), look_eq]
theorem moF_b {sp : Addr} {x : List Nat} {d b : V} : (moF sp x d b).lookup ("q_before" : Str) = some b := by
  unfold moF
  rw [look_ne (by decide +kernel), look_ne (by decide +kernel), look_ne (by decide +kernel), look_eq]
theorem moF_put {sp : Addr} {x : List Nat} {d b : V} : putF "q_before" b (putF "q_deed" d (putF "q_text" (.str (tx x)) (putF "q_speller" (.ref sp) []))) = moF sp x d b := by
  have a1 : ¬ ("q_speller" : Str) = "q_text" := by decide +kernel
  have a2 : ¬ ("q_speller" : Str) = "q_deed" := by decide +kernel
  have a3 : ¬ ("q_speller" : Str) = "q_before" := by decide +kernel
  have a4 : ¬ ("q_text" : Str) = "q_deed" := by decide +kernel
  have a5 : ¬ ("q_text" : Str) = "q_before" := by decide +kernel
  have a6 : ¬ ("q_deed" : Str) = "q_before" := by decide +kernel
  simp only [putF, if_neg a1, if_neg a2, if_neg a3, if_neg a4, if_neg a5, if_neg a6]
  rfl
/-- the head of a moment: what it stands for, its deed, the one before -/
def MoHd (K : PySem.W.Frag) (H : Hp) (a : Addr) (s : Sh) (d b : V) : Prop := ∃ dx sp, H a = some (.ins (aMo K) dx (moF sp s.x d b)) ∧ SpellerAt K H sp s.es s.p
theorem MoHd.mono {K : PySem.W.Frag} {H H' : Hp} {a : Addr} {s : Sh} {d b : V} (h : MoHd K H a s d b) (e : Same H H') : MoHd K H' a s d b := by
  obtain ⟨dx, sp, h1, h2⟩ := h
  exact ⟨dx, sp, e _ _ h1, h2.mono e⟩
def N_Moment_init : List Str := ["self", "speller", "text", "deed", "before"]
theorem sc_Moment_init : FnScope N_Moment_init ["self", "speller", "text", "deed", "before"] (defScope (inClass (top 37) 0)) := ⟨rfl, rfl, rfl, by decide +kernel, rfl, by decide +kernel, by decide +kernel⟩
def spMomentInit (K : PySem.W.Frag) : Sp := fun vs H Q _ => ∃ (B M : Hp) (a dx sp : Addr) (x : List Nat) (d b : V), vs = [.ref a, .ref sp, .str (tx x), d, b] ∧ Wd B (upd M a (.ins (aMo K) dx [])) H ∧
  ∀ H', Wd B (upd M a (.ins (aMo K) dx (moF sp x d b))) H' → Q .non H'
theorem c_Moment (T : Tx P w K mg) : Mc P w K mg base CX0 1 "Moment" (aMo K) (spMomentInit K) [] := by
  have S := sc_Moment_init
  obtain ⟨fd, F⟩ := T.d_Moment___init__
  refine ⟨_, fd, _, [], T.mk_Moment, F.ok (ps := ["self", "speller", "text", "deed", "before"]) S (fun vs H Q E h => ?_) (fun cdv A outer s H vs Q E hr h => ?_), T.g_Moment, F.bindsN (fun _ _ _ _ _ _ us hl => match us, hl with | [_, _, _, _, _], _ => rfl), .nil⟩
  · obtain ⟨B, M, a, dx, sp, x, d, b, rfl, _⟩ := h
    rfl
  · obtain ⟨B, M, a, dx, sp, x, d, b, rfl, wd, k⟩ := h
    suffices hh : ∃ t, PSs (cxOf CX0 P w K mg base N_Moment_init "Moment.__init__" (defScope (inClass (top 37) 0)) (He.ma K (aMo K) "__init__") cdv A outer s H E).nox (defBody (inClass (top 37) 0)) t ∧ t { nx := fun _ H' => Q .non H', rt := Q } (L2.start N_Moment_init [.ref a, .ref sp, .str (tx x), d, b]) H by
      obtain ⟨t, a, b⟩ := hh
      exact ⟨t, a.nox, b⟩
    refine ⟨_, (pss_cons (ps_fld (pv 0) (pv 1) rfl)
    (pss_cons (ps_fld (pv 0) (pv 2) rfl)
    (pss_cons (ps_fld (pv 0) (pv 3) rfl)
    (pss_one (ps_fld (pv 0) (pv 4) rfl))))), ?_⟩
    have c := T.cl_Moment
    refine ⟨_, rfl, _, rfl, fld_step wd c T.na_Moment_q_speller (by decide) fun H1 w1 => ?_⟩
    refine ⟨_, rfl, _, rfl, fld_step w1 c T.na_Moment_q_text (Nat.lt_of_le_of_lt (length_putF _ _ _) (by decide)) fun H2 w2 => ?_⟩
    refine ⟨_, rfl, _, rfl, fld_step w2 c T.na_Moment_q_deed (Nat.lt_of_le_of_lt (length_putF _ _ _) (Nat.lt_of_le_of_lt (Nat.succ_le_succ (length_putF _ _ _)) (by decide))) fun H3 w3 => ?_⟩
    refine ⟨_, rfl, _, rfl, fld_step w3 c T.na_Moment_q_before (Nat.lt_of_le_of_lt (length_putF _ _ _) (Nat.lt_of_le_of_lt (Nat.succ_le_succ (length_putF _ _ _)) (Nat.lt_of_le_of_lt (Nat.succ_le_succ (Nat.succ_le_succ (length_putF _ _ _))) (by decide)))) fun H4 w4 => ?_⟩
    exact k _ (by rw [← moF_put]; exact w4)
theorem moment_made {B M H : Hp} {x dx sp : Addr} {y : List Nat} {d b : V} {Q : Hp → Prop} {E : XK} {es : List Ent} {p : Sl} (wd : Wd B M H) (hx : H x = none) (hd : H dx = none) (ne : dx ≠ x) (hs : SpellerAt K B sp es p)
    (k : ∀ B' H', Same B B' → Wd B' M H' → MoHd K B' x ⟨es, p, y⟩ d b → Q H') :
    spMomentInit K [.ref x, .ref sp, .str (tx y), d, b] (upd (upd H dx (.own x)) x (.ins (aMo K) dx [])) (fun v H2 => v = .non ∧ Q H2) E := by
  have hB := wd.fb hx
  have s1 : Same B (upd B dx (.own x)) := wd.sb hd
  refine ⟨_, M, x, dx, sp, y, d, b, rfl, wd.made hx hd ne, fun H' w' => ⟨rfl, ?_⟩⟩
  have s2 : Same (upd B dx (.own x)) (upd (upd B dx (.own x)) x (.ins (aMo K) dx (moF sp y d b))) := Same.new (by rw [upd_ne (fun z => ne z.symm)]; exact hB)
  exact k _ H' (s1.trans s2) (w'.frz (wd.fm hx)) ⟨dx, sp, upd_same, hs.mono (s1.trans s2)⟩
def N_pressed : List Str := ["moment", "text"]
theorem sc_pressed : FnScope N_pressed ["moment", "text"] (defScope (top 40)) := ⟨rfl, rfl, rfl, by decide +kernel, rfl, by decide +kernel, by decide +kernel⟩
def spPressed (K : PySem.W.Frag) : Sp := fun vs H Q _ => ∃ (a : Addr) (s : Sh) (d b : V) (y : List Nat), vs = [.ref a, .str (tx y)] ∧ MoHd K H a s d b ∧ AzL y ∧ s.x.length + y.length ≤ 400 ∧ ∀ H', Same H H' → Q (.str (tx (s.x ++ y))) H'
theorem c_pressed (T : Tx P w K mg) : Cl P w K mg base CX0 3 "pressed" (spPressed K) := by
  have S := sc_pressed
  have c_need_text := @c_need_text P w K mg base T
  refine mkCl0 T.d_pressed T.gf_pressed S (fun _ _ _ _ _ _ us hl => match us, hl with | [_, _], _ => rfl) (fun vs H Q E h => ?_) (fun cdv A outer s H vs Q E hr h => ?_)
  · obtain ⟨a, s, d, b, y, rfl, _⟩ := h
    rfl
  · obtain ⟨a, s, d, b, y, rfl, ⟨dx, sp, ha, _⟩, ay, hl, k⟩ := h
    refine ⟨_, (pss_cons (ps_expr (pe_f c_need_text hr (by decide) rfl pass0 (pa_cons (pv 1) pa_nil)))
    (pss_cons (ps_if (pt_cmpR op_gt (pe_op op_add (pe_callB call_len_str rfl T.n_len bt_len (pa_cons (pe_fld (pv 0) rfl) pa_nil)) (pe_callB call_len_str rfl T.n_len bt_len (pa_cons (pv 1) pa_nil))) (C8.pe_gc rfl T.k_LONGEST_TEXT) (nomark _)) pss_never pss_nil)
    (pss_one (ps_ret (pe_op op_add_str (pe_fld (pv 0) rfl) (pv 1)))))), ?_⟩
    have c := T.cl_Moment
    refine ⟨_, rfl, _, rfl, ay.az, fun H1 s1 => ?_⟩
    have l1 : (tx s.x).length ≤ sizeLine := by rw [tx_len]; exact Nat.le_of_lt (small_line (by omega))
    have l2 : (tx y).length ≤ sizeLine := by rw [tx_len]; exact Nat.le_of_lt (small_line (by omega))
    refine ⟨_, rfl, a, _, dx, _, _, rfl, s1 _ _ ha, c, T.na_Moment_q_text, moF_t, _, rfl, l1, _, rfl, _, rfl, l2, _, _, rfl, rfl, _, _, rfl, rfl, _, rfl, ?_⟩
    rw [tx_len, tx_len]
    rw [decide_eq_false (show ¬ ((s.x.length : Int) + y.length > 400) by omega)]
    refine iteF ⟨_, rfl, a, _, dx, _, _, rfl, s1 _ _ ha, c, T.na_Moment_q_text, moF_t, _, rfl, ?_⟩
    refine ⟨_, _, rfl, rfl, by rw [tx_len, tx_len]; exact Nat.le_of_lt (small_line (by omega)), ?_⟩
    rw [SX.S_cat]
    exact k _ s1
def N_shortened : List Str := ["moment", "many"]
theorem sc_shortened : FnScope N_shortened ["moment", "many"] (defScope (top 41)) := ⟨rfl, rfl, rfl, by decide +kernel, rfl, by decide +kernel, by decide +kernel⟩
def spShortened (K : PySem.W.Frag) : Sp := fun vs H Q _ => ∃ (a : Addr) (s : Sh) (d b : V) (n : Nat), vs = [.ref a, .int n] ∧ MoHd K H a s d b ∧ 1 ≤ n ∧ n ≤ s.x.length ∧ s.x.length ≤ 1000 ∧ Q (.str (tx (s.x.take (s.x.length - n)))) H
theorem c_shortened (T : Tx P w K mg) : Cl P w K mg base CX0 2 "shortened" (spShortened K) := by
  have S := sc_shortened
  have c_is_integer := @c_is_integer P w K mg base T
  refine mkCl0 T.d_shortened T.gf_shortened S (fun _ _ _ _ _ _ us hl => match us, hl with | [_, _], _ => rfl) (fun vs H Q E h => ?_) (fun cdv A outer s H vs Q E hr h => ?_)
  · obtain ⟨a, s, d, b, n, rfl, _⟩ := h
    rfl
  · obtain ⟨a, s, d, b, n, rfl, ⟨dx, sp, ha, _⟩, n1, n2, hl, k⟩ := h
    refine ⟨_, (pss_cons (ps_if (PW.pt (pw_or (pt_not (pt_val (pe_f c_is_integer hr (by decide) rfl pass0 (pa_cons (pv 1) pa_nil)))) (pw_or1 (pt_not (pt_chain op_le op_le pe_int (pv 1) (pe_callB call_len_str rfl T.n_len bt_len (pa_cons (pe_fld (pv 0) rfl) pa_nil))))))) pss_never pss_nil)
    (pss_one (ps_ret (pe_slice sl_str (pe_fld (pv 0) rfl) po_none (po_some (pe_op op_sub (pe_callB call_len_str rfl T.n_len bt_len (pa_cons (pe_fld (pv 0) rfl) pa_nil)) (pv 1))))))), ?_⟩
    have c := T.cl_Moment
    have l1 : (tx s.x).length ≤ sizeLine := by rw [tx_len]; exact Nat.le_of_lt (small_line (by omega))
    refine ⟨_, rfl, _, rfl, _, rfl, iteF ?_⟩
    refine ⟨_, rfl, _, _, rfl, rfl, _, rfl, ?_⟩
    rw [decide_eq_true (show (1 : Int) ≤ n by omega)]
    refine iteT ⟨_, rfl, a, _, dx, _, _, rfl, ha, c, T.na_Moment_q_text, moF_t, _, rfl, l1, _, _, rfl, rfl, _, rfl, ?_⟩
    rw [tx_len, decide_eq_true (show (n : Int) ≤ s.x.length by omega)]
    refine iteF ⟨_, rfl, a, _, dx, _, _, rfl, ha, c, T.na_Moment_q_text, moF_t, _, rfl, a, _, dx, _, _, rfl, ha, c, T.na_Moment_q_text, moF_t, _, rfl, l1, _, rfl, _, _, rfl, rfl, _, rfl, _, rfl, l1, ?_⟩
    rw [tx_len, show (s.x.length : Int) - n = ((s.x.length - n : Nat) : Int) by omega, cut_to]
    exact k
theorem spF_no {u sa : Addr} {f : Str} (h1 : ¬ f = "e_entries") (h2 : ¬ f = "e_slips") : (spF u sa).lookup f = none := by
  unfold spF
  rw [look_ne h1, look_ne h2]
  rfl
theorem catAH_of {B M H : Hp} {a b : Addr} {xs ys : List V} {Q : VK} (wd : Wd B M H) (ha : B a = some (.tup xs)) (hb : B b = some (.tup ys)) (hl : xs.length + ys.length ≤ 100000) (k : ∀ t B' H', Same B B' → Wd B' M H' → Same H H' → B' t = some (.tup (xs ++ ys)) → Q (.ref t) H') : rCatA K (.ref a) (.ref b) H Q := by
  refine ⟨a, b, xs, ys, rfl, rfl, SqT.of (wd.b _ _ ha), SqT.of (wd.b _ _ hb), Nat.le_of_lt (small_line hl), fun q => k b B H (Same.refl _) wd (Same.refl _) (by rw [q, List.nil_append]; exact hb), fun _ q => k a B H (Same.refl _) wd (Same.refl _) (by rw [q, List.append_nil]; exact ha), fun _ _ t ht => k t _ _ (wd.sb ht) (wd.new ht) (Same.new ht) upd_same⟩
def N_taught : List Str := ["speller", "word", "own"]
theorem sc_taught : FnScope N_taught ["speller", "word", "own"] (defScope (top 42)) := ⟨rfl, rfl, rfl, by decide +kernel, rfl, by decide +kernel, by decide +kernel⟩
def spTaught (K : PySem.W.Frag) : Sp := fun vs H Q E => ∃ (B M : Hp) (a : Addr) (es : List Ent) (p : Sl) (e : Ent), vs = [.ref a, .str (tx e.1), .int e.2] ∧ Wd B M H ∧ SpellerAt K B a es p ∧ EsOk es ∧ EntOk e ∧
  (∀ i, (es.map Prod.fst)[i]? = some e.1 → ∀ B' b H', Same B B' → Wd B' M H' → SpellerAt K B' b (setEs es i e) p → Q (.ref b) H') ∧
  (¬ e.1 ∈ es.map Prod.fst → es.length < 4 → ∀ B' b H', Same B B' → Wd B' M H' → SpellerAt K B' b (es ++ [e]) p → Q (.ref b) H') ∧
  (¬ e.1 ∈ es.map Prod.fst → es.length = 4 → ∀ d H', H d = none → Same H H' → H' d = some (.xd [("at", .int 4)]) → E (.ref (aBE K)) (some d) H')
theorem c_taught (T : Tx P w K mg) : Cl P w K mg base (L2.CX P w) 8 "taught" (spTaught K) := by
  have S := sc_taught
  have c_Speller___contains__ := @c_Speller___contains__ P w K mg base T
  have c_Speller_with_own := @c_Speller_with_own P w K mg base T
  have c_Speller_entries := @c_Speller_entries P w K mg base T
  have c_Speller_slips := @c_Speller_slips P w K mg base T
  have c_Speller := @c_Speller P w K mg base T
  refine mkCl T.d_taught T.gf_taught S (fun _ _ _ _ _ _ us hl => match us, hl with | [_, _, _], _ => rfl) (fun vs H Q E h => ?_) (fun cdv A outer s H vs Q E hr h => ?_)
  · obtain ⟨B, M, a, es, p, e, rfl, _⟩ := h
    rfl
  · obtain ⟨B, M, a, es, p, e, rfl, wd, sp, ok, he, k1, k2, k3⟩ := h
    have tk : Takes (cxOf (L2.CX P w) P w K mg base N_taught "taught" (defScope (top 42)) (He.ga K "taught") cdv A outer s H E) (fun cls d _ H => E cls d H) := takes_of rfl rfl rfl rfl
    have hx : Passes (L2.CX P w) (cxOf (L2.CX P w) P w K mg base N_taught "taught" (defScope (top 42)) (He.ga K "taught") cdv A outer s H E) E := passes_call tk fun _ _ _ _ h => h
    refine ⟨_, (pss_cons (ps_if (pt_cmpR (op_inO c_Speller___contains__ hr (by decide) pass0) (pv 1) (pv 0) rfl) (pss_one (ps_ret (pe_m c_Speller_with_own hr (by decide) pass0 (pv 0) (pa_cons (pv 1) (pa_cons (pv 2) pa_nil))))) pss_nil)
    (pss_one (ps_ret (pe_n c_Speller hr (by decide) rfl hx (pa_cons (pe_op op_catA (pe_p c_Speller_entries hr (by decide) pass0 (pv 0)) (pe_tup (pa_cons (pe_tup (pa_cons (pv 1) (pa_cons (pv 2) pa_nil))) pa_nil))) (pa_cons (pe_p c_Speller_slips hr (by decide) pass0 (pv 0)) pa_nil)))))), ?_⟩
    obtain ⟨dx, u, sa, ha, ⟨refs, hu, pp⟩, sl⟩ := id sp
    have c := T.cl_Speller
    have haH := wd.b _ _ ha
    refine ⟨_, rfl, _, rfl, ⟨a, dx, _, rfl, haH, a, es, p, e.1, rfl, sp.mono wd.b, ok, fun H1 s1 => ⟨_, rfl, _, rfl, ?_⟩⟩⟩
    have w1 := wd.mono s1
    refine ite2 (fun q => ?_) (fun q => ?_)
    · have hm := of_decide_eq_true q
      obtain ⟨i, hi⟩ := List.getElem?_of_mem hm
      refine ⟨_, rfl, a, dx, _, rfl, w1.b _ _ ha, ?_⟩
      refine ⟨spF_no (by decide +kernel) (by decide +kernel), _, rfl, _, rfl, B, M, a, es, p, e, i, rfl, w1, sp, ok, hi, he, fun B2 b H2 s2 w2 sp2 => ?_⟩
      exact k1 i hi B2 b H2 s2 w2 sp2
    · have hm : ¬ e.1 ∈ es.map Prod.fst := fun z => q (decide_eq_true z)
      refine ⟨_, rfl, a, dx, _, rfl, w1.b _ _ ha, a, dx, _, _, rfl, w1.b _ _ ha, spF_e, _, rfl, _, rfl, sz2, fun ea hea => ⟨sz1, fun ta hta => ?_⟩⟩
      have rl := pp.length
      have hl := ok.len
      have w3 := (w1.new hea (o := .tup [.str (tx e.1), .int e.2])).new hta (o := .tup [.ref ea])
      have s3 : Same B (upd (upd B ea (.tup [.str (tx e.1), .int e.2])) ta (.tup [.ref ea])) := (w1.sb hea).trans ((w1.new hea).sb hta)
      have sH : Same H1 (upd (upd H1 ea (.tup [.str (tx e.1), .int e.2])) ta (.tup [.ref ea])) := (Same.new hea).trans (Same.new hta)
      have hent : EntAt (upd (upd B ea (.tup [.str (tx e.1), .int e.2])) ta (.tup [.ref ea])) (.ref ea) e := ⟨ea, rfl, (w1.new hea).sb hta _ _ upd_same⟩
      refine catAH_of w3 (s3 _ _ hu) upd_same (by simp; omega) fun t3 B4 H4 s4 w4 sH4 ht3 => ?_
      have s14 := s3.trans s4
      refine ⟨_, rfl, a, dx, _, rfl, w4.b _ _ (s14 _ _ ha), a, dx, _, _, rfl, w4.b _ _ (s14 _ _ ha), spF_s, fun x' dx' hx' hd' ne' => ?_⟩
      have pl : Paired (EntAt B4) (refs ++ [.ref ea]) (es ++ [e]) := Paired.app (Paired.mapP pp fun _ _ h => h.mono s14) (.cons (hent.mono s4) .nil)
      have ll : (es ++ [e]).length = es.length + 1 := by simp
      have ok4 : EsOk ((es ++ [e]).take 4) := by
        by_cases q4 : es.length < 4
        · have := newEs_ok ok hm he q4
          rw [List.take_of_length_le this.len]
          exact this
        · have h4 : es.length = 4 := by omega
          rw [List.take_append_of_le_length (by omega), List.take_of_length_le (by omega)]
          exact ok
      refine speller_made w4 hx' hd' ne' (.inr ht3) pl ok4 (by omega) (.inr ⟨sa, rfl, sl.mono s14⟩) (fun h4 B5 H5 s5 w5 sp5 => ?_) (fun h5 d H5 hn ss hd5 => ?_)
      · exact k2 hm (by omega) B5 x' H5 (s14.trans s5) w5 sp5
      · have sa4 := (s1.trans sH).trans sH4
        exact k3 hm (by omega) d H5 (sa4.free hn) (sa4.trans ss) hd5
end
end Mw
/-! W13: later_moment -/
namespace Mw
open PySem PySem.Spec PyProof.Rows L2
section
variable {P : Program} {w : World} {K : PySem.W.Frag} {mg : Str → Option Value} {base : Heap}
theorem iteT' {b : Bool} {p q : Prop} (e : b = true) (h : p) : if b = true then p else q := by rw [if_pos e]; exact h
theorem iteF' {b : Bool} {p q : Prop} (e : b = false) (h : q) : if b = true then p else q := by rw [e]; exact h
def N_later_moment : List Str := ["moment", "deed", "speller", "text", "slips"]
theorem sc_later_moment : FnScope N_later_moment ["moment", "deed"] (defScope (top 43)) := ⟨rfl, rfl, rfl, by decide +kernel, rfl, by decide +kernel, by decide +kernel⟩
def spLater (K : PySem.W.Frag) : Sp := fun vs H Q E => ∃ (B M : Hp) (mo da : Addr) (s : Sh) (d : Deed) (dv bv : V), vs = [.ref mo, .ref da] ∧ Wd B M H ∧ MoHd K B mo s dv bv ∧ B da = some (.tup d.vals) ∧ ShOk s ∧
  ((∃ s', Stepd s d s' ∧ ∀ B' mo' H', Same B B' → Wd B' M H' → MoHd K B' mo' s' (.ref da) (.ref mo) → Q (.ref mo') H') ∨
   (Refused s d ∧ ∀ d' H', H d' = none → Same H H' → H' d' = some (.xd [("at", .int 4)]) → E (.ref (aBE K)) (some d') H'))
theorem nm_ne1 : ¬ V.str "back" = V.str "press" := by decide +kernel
theorem nm_ne2 : ¬ V.str "learn" = V.str "press" := by decide +kernel
theorem nm_ne3 : ¬ V.str "learn" = V.str "back" := by decide +kernel
theorem nm_ne4 : ¬ V.str "forget" = V.str "press" := by decide +kernel
theorem nm_ne5 : ¬ V.str "forget" = V.str "back" := by decide +kernel
theorem nm_ne6 : ¬ V.str "forget" = V.str "learn" := by decide +kernel
theorem nm_ne7 : ¬ V.str "slips" = V.str "press" := by decide +kernel
theorem nm_ne8 : ¬ V.str "slips" = V.str "back" := by decide +kernel
theorem nm_ne9 : ¬ V.str "slips" = V.str "learn" := by decide +kernel
theorem nm_ne10 : ¬ V.str "slips" = V.str "forget" := by decide +kernel
theorem c_later_moment (T : Tx P w K mg) : Cl P w K mg base (L2.CX P w) 9 "later_moment" (spLater K) := by
  have S := sc_later_moment
  have c_pressed := @c_pressed P w K mg base T
  have c_shortened := @c_shortened P w K mg base T
  have c_taught := @c_taught P w K mg base T
  have c_Speller___sub__ := @c_Speller___sub__ P w K mg base T
  have c_Slips := @c_Slips P w K mg base T
  have c_Speller := @c_Speller P w K mg base T
  have c_Speller_entries := @c_Speller_entries P w K mg base T
  have c_Moment := @c_Moment P w K mg base T
  refine mkCl T.d_later_moment T.gf_later_moment S (fun _ _ _ _ _ _ us hl => match us, hl with | [_, _], _ => rfl) (fun vs H Q E h => ?_) (fun cdv A outer s0 H vs Q E hr h => ?_)
  · obtain ⟨B, M, mo, da, s, d, dv, bv, rfl, _⟩ := h
    rfl
  · obtain ⟨B, M, mo, da, s, d, dv, bv, rfl, wd, hmo, hda, ok, kk⟩ := h
    have tk : Takes (cxOf (L2.CX P w) P w K mg base N_later_moment "later_moment" (defScope (top 43)) (He.ga K "later_moment") cdv A outer s0 H E) (fun cls d _ H => E cls d H) := takes_of rfl rfl rfl rfl
    have hx : Passes (L2.CX P w) (cxOf (L2.CX P w) P w K mg base N_later_moment "later_moment" (defScope (top 43)) (He.ga K "later_moment") cdv A outer s0 H E) E := passes_call tk fun _ _ _ _ h => h
    refine ⟨_, (pss_cons (ps_par (i := 2) (j := 3) (by rfl) S.nd rfl rfl (by decide) rfl rfl (pa_cons (pe_fld (pv 0) rfl) (pa_cons (pe_fld (pv 0) rfl) pa_nil)) (by rfl))
    (C8.pss_cut (ps_if (pt_cmpR op_eq (pe_ix ix_tup (pv 1) pe_int (fun _ _ => rfl)) pe_str (nomark _)) (pss_one (ps_set (i := 3) S.nd rfl (Or.inl rfl) (pe_f c_pressed hr (by decide) rfl pass0 (pa_cons (pv 0) (pa_cons (pe_ix ix_tup (pv 1) pe_int (fun _ _ => rfl)) pa_nil))))) (pss_one (ps_if (pt_cmpR op_eq (pe_ix ix_tup (pv 1) pe_int (fun _ _ => rfl)) pe_str (nomark _)) (pss_one (ps_set (i := 3) S.nd rfl (Or.inl rfl) (pe_f c_shortened hr (by decide) rfl pass0 (pa_cons (pv 0) (pa_cons (pe_ix ix_tup (pv 1) pe_int (fun _ _ => rfl)) pa_nil))))) (pss_one (ps_if (pt_cmpR op_eq (pe_ix ix_tup (pv 1) pe_int (fun _ _ => rfl)) pe_str (nomark _)) (pss_one (ps_set (i := 2) S.nd rfl (Or.inl rfl) (pe_f c_taught hr (by decide) rfl hx (pa_cons (pv 2) (pa_cons (pe_ix ix_tup (pv 1) pe_int (fun _ _ => rfl)) (pa_cons (pe_ix ix_tup (pv 1) pe_int (fun _ _ => rfl)) pa_nil)))))) (pss_one (ps_if (pt_cmpR op_eq (pe_ix ix_tup (pv 1) pe_int (fun _ _ => rfl)) pe_str (nomark _)) (pss_one (ps_set (i := 2) S.nd rfl (Or.inl rfl) (pe_op (op_subO c_Speller___sub__ hr (by decide) pass0 T.sf_Speller T.rs_Speller T.ss_str T.sr_str T.sx_Speller) (pv 2) (pe_ix ix_tup (pv 1) pe_int (fun _ _ => rfl))))) (pss_cons (ps_set (i := 4) S.nd rfl (Or.inl rfl) (pe_slipsK c_Slips hr (by decide) rfl (pk_cons (pe_ix ix_tup (pv 1) pe_int (fun _ _ => rfl)) (pk_cons (pe_ix ix_tup (pv 1) pe_int (fun _ _ => rfl)) (pk_cons (pe_ix ix_tup (pv 1) pe_int (fun _ _ => rfl)) (pk_cons (pe_ix ix_tup (pv 1) pe_int (fun _ _ => rfl)) pk_nil))))))
    (pss_one (ps_set (i := 2) S.nd rfl (Or.inl rfl) (pe_n c_Speller hr (by decide) rfl hx (pa_cons (pe_p c_Speller_entries hr (by decide) pass0 (pv 2)) (pa_cons (pv 4) pa_nil)))))))))))))
    (pss_one (ps_ret (pe_n c_Moment hr (by decide) rfl pass0 (pa_cons (pv 2) (pa_cons (pv 3) (pa_cons (pv 1) (pa_cons (pv 0) pa_nil))))))))), ?_⟩
    obtain ⟨dx, sp, ha, hsp⟩ := id hmo
    have c := T.cl_Moment
    have haH := wd.b _ _ ha
    have hdH := wd.b _ _ hda
    refine ⟨_, rfl, mo, _, dx, _, _, rfl, haH, c, T.na_Moment_q_speller, moF_s, _, rfl, mo, _, dx, _, _, rfl, haH, c, T.na_Moment_q_text, moF_t, _, _, rfl, ?_⟩
    rcases kk with ⟨s', st, kk⟩ | ⟨rf, kk⟩
    · refine ⟨fun σ' H' => ∃ (B' : Hp) (sp' : Addr) (v4 : Option V), σ' = [some (.ref mo), some (.ref da), some (.ref sp'), some (.str (tx s'.x)), v4] ∧ Same B B' ∧ Wd B' M H' ∧ SpellerAt K B' sp' s'.es s'.p, ?_, ?_⟩
      · cases st with
        | press hy hl =>
          refine ⟨_, rfl, da, _, _, _, rfl, rfl, SqT.of hdH, atI_nat (j := 0) rfl, rfl, _, rfl, iteT' (decide_eq_true rfl) ?_⟩
          exact ⟨_, rfl, _, rfl, da, _, _, _, rfl, rfl, SqT.of hdH, atI_nat (j := 1) rfl, mo, _, dv, bv, _, rfl, hmo.mono wd.b, hy, hl, fun H1 s1 => ⟨B, sp, _, rfl, Same.refl _, wd.mono s1, hsp⟩⟩
        | back h1 h2 =>
          refine ⟨_, rfl, da, _, _, _, rfl, rfl, SqT.of hdH, atI_nat (j := 0) rfl, rfl, _, rfl, iteF' (decide_eq_false nm_ne1) ?_⟩
          refine ⟨_, rfl, da, _, _, _, rfl, rfl, SqT.of hdH, atI_nat (j := 0) rfl, rfl, _, rfl, iteT' (decide_eq_true rfl) ?_⟩
          exact ⟨_, rfl, _, rfl, da, _, _, _, rfl, rfl, SqT.of hdH, atI_nat (j := 1) rfl, mo, _, dv, bv, _, rfl, hmo.mono wd.b, h1, h2, by have := ok.l; dsimp only at this ⊢; omega, B, sp, _, rfl, Same.refl _, wd, hsp⟩
        | @old es p x e i hi he =>
          refine ⟨_, rfl, da, _, _, _, rfl, rfl, SqT.of hdH, atI_nat (j := 0) rfl, rfl, _, rfl, iteF' (decide_eq_false nm_ne2) ?_⟩
          refine ⟨_, rfl, da, _, _, _, rfl, rfl, SqT.of hdH, atI_nat (j := 0) rfl, rfl, _, rfl, iteF' (decide_eq_false nm_ne3) ?_⟩
          refine ⟨_, rfl, da, _, _, _, rfl, rfl, SqT.of hdH, atI_nat (j := 0) rfl, rfl, _, rfl, iteT' (decide_eq_true rfl) ?_⟩
          refine ⟨_, rfl, _, rfl, da, _, _, _, rfl, rfl, SqT.of hdH, atI_nat (j := 1) rfl, _, rfl, da, _, _, _, rfl, rfl, SqT.of hdH, atI_nat (j := 2) rfl, B, M, sp, es, p, e, rfl, wd, hsp, ok.es, he, fun j hj B' b H' s' w' sp' => ?_, fun no => absurd (List.mem_of_getElem? hi) no, fun no => absurd (List.mem_of_getElem? hi) no⟩
          have hij : j = i := (List.getElem?_inj (List.getElem?_eq_some_iff.mp hj).1 ok.es.nd).mp (hj.trans hi.symm)
          rw [hij] at sp'
          exact ⟨B', b, _, rfl, s', w', sp'⟩
        | @new es p x e hn he h4 =>
          refine ⟨_, rfl, da, _, _, _, rfl, rfl, SqT.of hdH, atI_nat (j := 0) rfl, rfl, _, rfl, iteF' (decide_eq_false nm_ne2) ?_⟩
          refine ⟨_, rfl, da, _, _, _, rfl, rfl, SqT.of hdH, atI_nat (j := 0) rfl, rfl, _, rfl, iteF' (decide_eq_false nm_ne3) ?_⟩
          refine ⟨_, rfl, da, _, _, _, rfl, rfl, SqT.of hdH, atI_nat (j := 0) rfl, rfl, _, rfl, iteT' (decide_eq_true rfl) ?_⟩
          exact ⟨_, rfl, _, rfl, da, _, _, _, rfl, rfl, SqT.of hdH, atI_nat (j := 1) rfl, _, rfl, da, _, _, _, rfl, rfl, SqT.of hdH, atI_nat (j := 2) rfl, B, M, sp, es, p, e, rfl, wd, hsp, ok.es, he, fun j hj => absurd (List.mem_of_getElem? hj) hn, fun _ _ B' b H' s' w' sp' => ⟨B', b, _, rfl, s', w', sp'⟩, fun _ h5 => absurd h5 (by omega)⟩
        | @forget es p x y i hi =>
          refine ⟨_, rfl, da, _, _, _, rfl, rfl, SqT.of hdH, atI_nat (j := 0) rfl, rfl, _, rfl, iteF' (decide_eq_false nm_ne4) ?_⟩
          refine ⟨_, rfl, da, _, _, _, rfl, rfl, SqT.of hdH, atI_nat (j := 0) rfl, rfl, _, rfl, iteF' (decide_eq_false nm_ne5) ?_⟩
          refine ⟨_, rfl, da, _, _, _, rfl, rfl, SqT.of hdH, atI_nat (j := 0) rfl, rfl, _, rfl, iteF' (decide_eq_false nm_ne6) ?_⟩
          refine ⟨_, rfl, da, _, _, _, rfl, rfl, SqT.of hdH, atI_nat (j := 0) rfl, rfl, _, rfl, iteT' (decide_eq_true rfl) ?_⟩
          obtain ⟨dsp, u, sa, hspB, hu, sl⟩ := id hsp
          exact ⟨_, rfl, _, rfl, da, _, _, _, rfl, rfl, SqT.of hdH, atI_nat (j := 1) rfl, ⟨_, rfl⟩, sp, dsp, _, rfl, wd.b _ _ hspB, B, M, sp, es, p, y, i, rfl, wd, hsp, ok.es, hi, fun B' b H' s' w' sp' => ⟨b, rfl, B', b, _, rfl, s', w', sp'⟩⟩
        | @slips es p q x hq =>
          refine ⟨_, rfl, da, _, _, _, rfl, rfl, SqT.of hdH, atI_nat (j := 0) rfl, rfl, _, rfl, iteF' (decide_eq_false nm_ne7) ?_⟩
          refine ⟨_, rfl, da, _, _, _, rfl, rfl, SqT.of hdH, atI_nat (j := 0) rfl, rfl, _, rfl, iteF' (decide_eq_false nm_ne8) ?_⟩
          refine ⟨_, rfl, da, _, _, _, rfl, rfl, SqT.of hdH, atI_nat (j := 0) rfl, rfl, _, rfl, iteF' (decide_eq_false nm_ne9) ?_⟩
          refine ⟨_, rfl, da, _, _, _, rfl, rfl, SqT.of hdH, atI_nat (j := 0) rfl, rfl, _, rfl, iteF' (decide_eq_false nm_ne10) ?_⟩
          obtain ⟨dsp, u, sa, hspB, ⟨refs, hu, pp⟩, sl⟩ := id hsp
          refine ⟨_, rfl, da, _, _, _, rfl, rfl, SqT.of hdH, atI_nat (j := 1) rfl, _, rfl, da, _, _, _, rfl, rfl, SqT.of hdH, atI_nat (j := 2) rfl, _, rfl, da, _, _, _, rfl, rfl, SqT.of hdH, atI_nat (j := 3) rfl, _, rfl, da, _, _, _, rfl, rfl, SqT.of hdH, atI_nat (j := 4) rfl, rfl, rfl, fun sx sdx hsx hsd sne => ?_⟩
          refine slips_made (p := q) wd hsx hsd sne hq fun B3 H4 s3 w4 sl2 => ?_
          refine ⟨_, rfl, sp, dsp, _, rfl, w4.b _ _ (s3 _ _ hspB), sp, dsp, _, _, rfl, w4.b _ _ (s3 _ _ hspB), spF_e, _, rfl, fun x' dx' hx' hd' ne' => ?_⟩
          have ok4 : EsOk (es.take 4) := by rw [List.take_of_length_le ok.es.len]; exact ok.es
          refine speller_made w4 hx' hd' ne' (.inr (s3 _ _ hu)) (ents_mono pp s3) ok4 (Nat.le_succ_of_le ok.es.len) (.inr ⟨sx, rfl, sl2⟩) (fun _ B5 H5 s5 w5 sp5 => ?_) (fun h5 => by have := ok.es.len; dsimp only at this h5; omega)
          exact ⟨B5, x', _, rfl, s3.trans s5, w5, sp5⟩
      · rintro σ' H' ⟨B', sp', v4, rfl, sB, w', hsp'⟩
        refine ⟨_, rfl, _, rfl, _, rfl, _, rfl, fun x' dx' hx' hd' ne' => ?_⟩
        exact moment_made w' hx' hd' ne' hsp' fun B2 H2 s2 w2 hm => kk B2 x' H2 (sB.trans s2) w2 hm
    · refine ⟨fun _ _ => False, ?_, fun _ _ h => h.elim⟩
      cases rf with
      | @full es p x e hn he h4 =>
        refine ⟨_, rfl, da, _, _, _, rfl, rfl, SqT.of hdH, atI_nat (j := 0) rfl, rfl, _, rfl, iteF' (decide_eq_false nm_ne2) ?_⟩
        refine ⟨_, rfl, da, _, _, _, rfl, rfl, SqT.of hdH, atI_nat (j := 0) rfl, rfl, _, rfl, iteF' (decide_eq_false nm_ne3) ?_⟩
        refine ⟨_, rfl, da, _, _, _, rfl, rfl, SqT.of hdH, atI_nat (j := 0) rfl, rfl, _, rfl, iteT' (decide_eq_true rfl) ?_⟩
        exact ⟨_, rfl, _, rfl, da, _, _, _, rfl, rfl, SqT.of hdH, atI_nat (j := 1) rfl, _, rfl, da, _, _, _, rfl, rfl, SqT.of hdH, atI_nat (j := 2) rfl, B, M, sp, es, p, e, rfl, wd, hsp, ok.es, he, fun j hj => absurd (List.mem_of_getElem? hj) hn, fun _ h5 => absurd h5 (by omega), fun _ _ => kk⟩
end
end Mw
/-! W14: sessions -/
namespace Mw
open PySem PySem.Spec PyProof.Rows L2
/-! ### chains of moments; the newest first -/
abbrev Chain := List (Deed × Sh)
def cur : Chain → Sh → Sh
  | [], s0 => s0
  | (_, s) :: _, _ => s
def MomAt (K : PySem.W.Frag) (H : Hp) : Addr → Chain → Sh → Prop
  | a, [], s0 => MoHd K H a s0 .non .non
  | a, (d, s) :: r, s0 => ∃ da b, MoHd K H a s (.ref da) (.ref b) ∧ H da = some (.tup d.vals) ∧ MomAt K H b r s0
theorem MomAt.mono {K : PySem.W.Frag} {H H' : Hp} (e : Same H H') : ∀ {c : Chain} {a : Addr} {s0 : Sh}, MomAt K H a c s0 → MomAt K H' a c s0
  | [], _, _, h => MoHd.mono h e
  | (_, _) :: _, _, _, ⟨da, b, h1, h2, h3⟩ => ⟨da, b, h1.mono e, e _ _ h2, MomAt.mono e h3⟩
theorem MomAt.hd {K : PySem.W.Frag} {H : Hp} {c : Chain} {a : Addr} {s0 : Sh} (h : MomAt K H a c s0) : ∃ d b, MoHd K H a (cur c s0) d b := by
  cases c with
  | nil => exact ⟨_, _, h⟩
  | cons q r =>
    obtain ⟨d, s⟩ := q
    obtain ⟨da, b, h1, _⟩ := h
    exact ⟨_, _, h1⟩
/-- each step of the chain was a deed's -/
def ChOk : Chain → Sh → Prop
  | [], s0 => ShOk s0
  | (d, s) :: r, s0 => Stepd (cur r s0) d s ∧ ChOk r s0
theorem ChOk.cur : ∀ {c : Chain} {s0 : Sh}, ChOk c s0 → ShOk (cur c s0)
  | [], _, h => h
  | (_, _) :: _, _, ⟨st, h⟩ => st.ok (ChOk.cur h)
theorem Stepd.dAz {s s' : Sh} {d : Deed} (st : Stepd s d s') (ok : ShOk s) : d.Az := by
  cases st with
  | press hy _ => exact fun c hc => (hy.1 c hc).2
  | back _ _ => trivial
  | old _ he => exact fun c hc => (he.az c hc).2
  | new _ he _ => exact fun c hc => (he.az c hc).2
  | forget hi =>
    intro c hc
    obtain ⟨e, he, rfl⟩ := List.mem_map.mp (List.mem_of_getElem? hi)
    exact ((ok.es.all e he).az c hc).2
  | slips _ => trivial
theorem Refused.dAz {s : Sh} {d : Deed} (st : Refused s d) : d.Az := by
  cases st with
  | full _ he _ => exact fun c hc => (he.az c hc).2
theorem undo_ne (d : Deed) : PyData.eqv d.data (.tuple [.str "undo"]) = false := by
  have n1 : (PySem.Str.ofString "press" == PySem.Str.ofString "undo") = false := by decide +kernel
  have n2 : (PySem.Str.ofString "back" == PySem.Str.ofString "undo") = false := by decide +kernel
  have n3 : (PySem.Str.ofString "learn" == PySem.Str.ofString "undo") = false := by decide +kernel
  have n4 : (PySem.Str.ofString "forget" == PySem.Str.ofString "undo") = false := by decide +kernel
  have n5 : (PySem.Str.ofString "slips" == PySem.Str.ofString "undo") = false := by decide +kernel
  cases d <;> simp only [Deed.data, Deed.datas, PyData.eqv, PyData.eqvAll, n1, n2, n3, n4, n5, Bool.false_and]
/-! ### sessions -/
abbrev aSe (K : PySem.W.Frag) : Addr := He.ga K "Session"
def seF (org now : Addr) : List (Str × V) := [("v_origin", .ref org), ("v_now", .ref now), ("v_mark", .non)]
theorem seF_o {org now : Addr} : (seF org now).lookup ("v_origin" : Str) = some (.ref org) := look_eq
theorem seF_n {org now : Addr} : (seF org now).lookup ("v_now" : Str) = some (.ref now) := by
  unfold seF
  rw [look_ne (by decide +kernel), look_eq]
theorem seF_no {org now : Addr} {f : Str} (h1 : ¬ f = "v_origin") (h2 : ¬ f = "v_now") (h3 : ¬ f = "v_mark") : (seF org now).lookup f = none := by
  unfold seF
  rw [look_ne h1, look_ne h2, look_ne h3]
  rfl
theorem seF_put {org now : Addr} : putF "v_mark" .non (putF "v_now" (.ref now) (putF "v_origin" (.ref org) [])) = seF org now := by
  have a1 : ¬ ("v_origin" : Str) = "v_now" := by decide +kernel
  have a2 : ¬ ("v_origin" : Str) = "v_mark" := by decide +kernel
  have a3 : ¬ ("v_now" : Str) = "v_mark" := by decide +kernel
  simp only [putF, if_neg a1, if_neg a2, if_neg a3]
  rfl
theorem seF_now {org now n : Addr} : putF "v_now" (.ref n) (seF org now) = seF org n := by
  have a1 : ¬ ("v_origin" : Str) = "v_now" := by decide +kernel
  unfold seF
  rw [putF_ne a1, putF_eq]
/-- a field of what may change is put -/
theorem fld_put {K : PySem.W.Frag} {B M H : Hp} {x C dx : Addr} {fs : List (Str × V)} {f : Str} {y : V} {R : Hp → Prop} (wd : Wd B M H) (hm : M x = some (.ins C dx fs)) (c : L2.Cls K C) (na : NoAttr K C f) (hl : fs.length < 1000)
    (k : ∀ H', Wd B (upd M x (.ins C dx (putF f y fs))) H' → R H') :
    ∃ a C' dx' fs', V.ref x = .ref a ∧ H a = some (.ins C' dx' fs') ∧ L2.Cls K C' ∧ NoAttr K C' f ∧ fs'.length < 1000 ∧ R (upd H a (.ins C' dx' (putF f y fs'))) :=
  ⟨x, C, dx, fs, rfl, wd.m _ _ hm, c, na, hl, k _ (wd.put hm)⟩
section
variable {P : Program} {w : World} {K : PySem.W.Frag} {mg : Str → Option Value} {base : Heap}
def N_Session_init : List Str := ["self", "speller"]
theorem sc_Session_init : FnScope N_Session_init ["self", "speller"] (defScope (inClass (top 44) 0)) := ⟨rfl, rfl, rfl, by decide +kernel, rfl, by decide +kernel, by decide +kernel⟩
def spSessionInit (K : PySem.W.Frag) : Sp := fun vs H Q _ => ∃ (B M : Hp) (a dx sp : Addr) (es : List Ent) (p : Sl), vs = [.ref a, .ref sp] ∧ Wd B (upd M a (.ins (aSe K) dx [])) H ∧ SpellerAt K B sp es p ∧
  ∀ B' now H', Same B B' → Wd B' (upd M a (.ins (aSe K) dx (seF sp now))) H' → MomAt K B' now [] ⟨es, p, []⟩ → Q .non H'
theorem c_Session (T : Tx P w K mg) : Mc P w K mg base CX0 3 "Session" (aSe K) (spSessionInit K) [] := by
  have S := sc_Session_init
  have c_Moment := @c_Moment P w K mg base T
  obtain ⟨fd, F⟩ := T.d_Session___init__
  refine ⟨_, fd, _, [], T.mk_Session, F.ok (ps := ["self", "speller"]) S (fun vs H Q E h => ?_) (fun cdv A outer s H vs Q E hr h => ?_), T.g_Session, F.bindsN (fun _ _ _ _ _ _ us hl => match us, hl with | [_, _], _ => rfl), .nil⟩
  · obtain ⟨B, M, a, dx, sp, es, p, rfl, _⟩ := h
    rfl
  · obtain ⟨B, M, a, dx, sp, es, p, rfl, wd, hsp, k⟩ := h
    suffices hh : ∃ t, PSs (cxOf CX0 P w K mg base N_Session_init "Session.__init__" (defScope (inClass (top 44) 0)) (He.ma K (aSe K) "__init__") cdv A outer s H E).nox (defBody (inClass (top 44) 0)) t ∧ t { nx := fun _ H' => Q .non H', rt := Q } (L2.start N_Session_init [.ref a, .ref sp]) H by
      obtain ⟨t, a, b⟩ := hh
      exact ⟨t, a.nox, b⟩
    refine ⟨_, (pss_cons (ps_fld (pv 0) (pv 1) rfl)
    (pss_cons (ps_fld (pv 0) (pe_n c_Moment hr (by decide) rfl pass0 (pa_cons (pv 1) (pa_cons pe_str (pa_cons pe_non (pa_cons pe_non pa_nil))))) rfl)
    (pss_one (ps_fld (pv 0) pe_non rfl)))), ?_⟩
    have c := T.cl_Session
    refine ⟨_, rfl, _, rfl, fld_step wd c T.na_Session_v_origin (by decide) fun H1 w1 => ?_⟩
    refine ⟨_, rfl, fun x' dx' hx' hd' ne' => ?_⟩
    rw [show V.str "" = V.str (tx []) by rw [← tx_nil]]
    refine moment_made w1 hx' hd' ne' hsp fun B2 H2 s2 w2 hm => ?_
    refine ⟨_, rfl, fld_step w2 c T.na_Session_v_now (Nat.lt_of_le_of_lt (length_putF _ _ _) (by decide)) fun H3 w3 => ?_⟩
    refine ⟨_, rfl, fld_step w3 c T.na_Session_v_mark (Nat.lt_of_le_of_lt (length_putF _ _ _) (Nat.lt_of_le_of_lt (Nat.succ_le_succ (length_putF _ _ _)) (by decide))) fun H4 w4 => ?_⟩
    exact k B2 x' _ s2 (by rw [← seF_put]; exact w4) hm
theorem session_made {B M H : Hp} {x dx sp : Addr} {Q : Hp → Prop} {E : XK} {es : List Ent} {p : Sl} (wd : Wd B M H) (hx : H x = none) (hd : H dx = none) (ne : dx ≠ x) (hs : SpellerAt K B sp es p)
    (k : ∀ B' now H', Same B B' → Wd B' (upd M x (.ins (aSe K) dx (seF sp now))) H' → MomAt K B' now [] ⟨es, p, []⟩ → Q H') :
    spSessionInit K [.ref x, .ref sp] (upd (upd H dx (.own x)) x (.ins (aSe K) dx [])) (fun v H2 => v = .non ∧ Q H2) E := by
  have s1 : Same B (upd B dx (.own x)) := wd.sb hd
  exact ⟨_, M, x, dx, sp, es, p, rfl, wd.made hx hd ne, hs.mono s1, fun B' now H' sB w' hm => ⟨rfl, k B' now H' (s1.trans sB) w' hm⟩⟩
theorem c_Session_origin (T : Tx P w K mg) : Pr P w K mg base CX0 1 (aSe K) "origin" (getSp (aSe K) "v_origin") :=
  mkGet T.d_Session_origin T.cl_Session T.na_Session_v_origin T.pr_Session_origin ⟨rfl, rfl, rfl, by decide +kernel, rfl, by decide +kernel, by decide +kernel⟩ (fun _ _ _ _ _ _ us hl => match us, hl with | [_], _ => rfl) rfl
def N_Session_speller : List Str := ["self"]
theorem sc_Session_speller : FnScope N_Session_speller ["self"] (defScope (inClass (top 44) 1)) := ⟨rfl, rfl, rfl, by decide +kernel, rfl, by decide +kernel, by decide +kernel⟩
def spSesSpeller (K : PySem.W.Frag) : Sp := fun vs H Q _ => ∃ (a dx org now mdx sp : Addr) (x : List Nat) (d b : V), vs = [.ref a] ∧ H a = some (.ins (aSe K) dx (seF org now)) ∧ H now = some (.ins (aMo K) mdx (moF sp x d b)) ∧ Q (.ref sp) H
theorem c_Session_speller (T : Tx P w K mg) : Pr P w K mg base CX0 1 (aSe K) "speller" (spSesSpeller K) := by
  have S := sc_Session_speller
  refine mkPr0 T.d_Session_speller T.cl_Session T.pr_Session_speller S (fun _ _ _ _ _ _ us hl => match us, hl with | [_], _ => rfl) (fun vs H Q E h => ?_) (fun cdv A outer s H vs Q E hr h => ?_)
  · obtain ⟨a, dx, org, now, mdx, sp, x, d, b, rfl, _⟩ := h
    rfl
  · obtain ⟨a, dx, org, now, mdx, sp, x, d, b, rfl, ha, hn, k⟩ := h
    refine ⟨_, (pss_one (ps_ret (pe_fld (pe_fld (pv 0) rfl) rfl))), ?_⟩
    exact ⟨_, rfl, a, _, dx, _, _, rfl, ha, T.cl_Session, T.na_Session_v_now, seF_n, now, _, mdx, _, _, rfl, hn, T.cl_Moment, T.na_Moment_q_speller, moF_s, k⟩
def N_Session_text : List Str := ["self"]
theorem sc_Session_text : FnScope N_Session_text ["self"] (defScope (inClass (top 44) 3)) := ⟨rfl, rfl, rfl, by decide +kernel, rfl, by decide +kernel, by decide +kernel⟩
def spSesText (K : PySem.W.Frag) : Sp := fun vs H Q _ => ∃ (a dx org now mdx sp : Addr) (x : List Nat) (d b : V), vs = [.ref a] ∧ H a = some (.ins (aSe K) dx (seF org now)) ∧ H now = some (.ins (aMo K) mdx (moF sp x d b)) ∧ Q (.str (tx x)) H
theorem c_Session_text (T : Tx P w K mg) : Pr P w K mg base CX0 1 (aSe K) "text" (spSesText K) := by
  have S := sc_Session_text
  refine mkPr0 T.d_Session_text T.cl_Session T.pr_Session_text S (fun _ _ _ _ _ _ us hl => match us, hl with | [_], _ => rfl) (fun vs H Q E h => ?_) (fun cdv A outer s H vs Q E hr h => ?_)
  · obtain ⟨a, dx, org, now, mdx, sp, x, d, b, rfl, _⟩ := h
    rfl
  · obtain ⟨a, dx, org, now, mdx, sp, x, d, b, rfl, ha, hn, k⟩ := h
    refine ⟨_, (pss_one (ps_ret (pe_fld (pe_fld (pv 0) rfl) rfl))), ?_⟩
    exact ⟨_, rfl, a, _, dx, _, _, rfl, ha, T.cl_Session, T.na_Session_v_now, seF_n, now, _, mdx, _, _, rfl, hn, T.cl_Moment, T.na_Moment_q_text, moF_t, k⟩
def N_Session_shown : List Str := ["self"]
theorem sc_Session_shown : FnScope N_Session_shown ["self"] (defScope (inClass (top 44) 4)) := ⟨rfl, rfl, rfl, by decide +kernel, rfl, by decide +kernel, by decide +kernel⟩
theorem _root_.Mw.Tx.fn_Speller___getitem__ (T : Tx P w K mg) : ∀ f, Meth K (He.ga K "Speller") "__getitem__" f → PySem.W.fnIn K f = true := fun f me => by
  have e := T.me_Speller___getitem__.at_
  rw [me.at_] at e
  have e2 : f = He.ma K (He.ga K "Speller") "__getitem__" := by
    injection e with e
    injection e with e
    injection e
  obtain ⟨fd, F⟩ := T.d_Speller___getitem__
  obtain ⟨oc, od, dV, kV, doc, pm, an, cdv, ct, osl, rfl, lk, _⟩ := F.ex
  rw [e2]
  unfold PySem.W.fnIn
  rw [lk]
def spSesShown (K : PySem.W.Frag) : Sp := fun vs H Q _ => ∃ (a dx org now : Addr) (s : Sh) (d b : V), vs = [.ref a] ∧ H a = some (.ins (aSe K) dx (seF org now)) ∧ MoHd K H now s d b ∧ ShOk s ∧ ∀ o H', Same H H' → MeantIs s.p s.x s.es o → Q (moV o) H'
theorem c_Session_shown (T : Tx P w K mg) : Pr P w K mg base CX0 10 (aSe K) "shown" (spSesShown K) := by
  have S := sc_Session_shown
  have c_Speller___getitem__ := @c_Speller___getitem__ P w K mg base T
  refine mkPr0 T.d_Session_shown T.cl_Session T.pr_Session_shown S (fun _ _ _ _ _ _ us hl => match us, hl with | [_], _ => rfl) (fun vs H Q E h => ?_) (fun cdv A outer s0 H vs Q E hr h => ?_)
  · obtain ⟨a, dx, org, now, s, d, b, rfl, _⟩ := h
    rfl
  · obtain ⟨a, dx, org, now, s, d, b, rfl, ha, ⟨mdx, sp, hn, hsp⟩, ok, k⟩ := h
    refine ⟨_, (pss_one (ps_ret (pe_subO c_Speller___getitem__ T.fn_Speller___getitem__ hr (by decide) pass0 (pe_fld (pe_fld (pv 0) rfl) rfl) (pe_fld (pe_fld (pv 0) rfl) rfl)))), ?_⟩
    obtain ⟨sdx, u, sa, hs1, hs2, hs3⟩ := id hsp
    exact ⟨_, rfl, a, _, dx, _, _, rfl, ha, T.cl_Session, T.na_Session_v_now, seF_n, now, _, mdx, _, _, rfl, hn, T.cl_Moment, T.na_Moment_q_speller, moF_s, _, rfl, a, _, dx, _, _, rfl, ha, T.cl_Session, T.na_Session_v_now, seF_n, now, _, mdx, _, _, rfl, hn, T.cl_Moment, T.na_Moment_q_text, moF_t, sp, sdx, _, rfl, hs1, sp, s.es, s.p, s.x, rfl, hsp, ok.es, ok.azl, k⟩
end
end Mw
/-! W15: what sessions do -/
namespace Mw
open PySem PySem.Spec PyProof.Rows L2
/-- a deed, or the undo -/
inductive ActSt (s0 : Sh) : Chain → Option Deed → Chain → Prop where
  | deed {c : Chain} {d : Deed} {s' : Sh} : Stepd (cur c s0) d s' → ActSt s0 c (some d) ((d, s') :: c)
  | undo {c : Chain} {q : Deed × Sh} : ActSt s0 (q :: c) none c
inductive Run (s0 : Sh) : Chain → List (Option Deed) → Chain → Prop where
  | nil {c : Chain} : Run s0 c [] c
  | cons {c c1 c2 : Chain} {a : Option Deed} {as : List (Option Deed)} : ActSt s0 c a c1 → Run s0 c1 as c2 → Run s0 c (a :: as) c2
theorem ActSt.ok {s0 : Sh} {c c' : Chain} {a : Option Deed} (h : ActSt s0 c a c') (ok : ChOk c s0) : ChOk c' s0 := by
  cases h with
  | deed st => exact ⟨st, ok⟩
  | undo => exact ok.2
def actVals : Option Deed → List V
  | some d => d.vals
  | none => [.str "undo"]
def actData : Option Deed → PyData
  | some d => d.data
  | none => .tuple [.str "undo"]
def ActAt (H : Hp) (v : V) (a : Option Deed) : Prop := ∃ ad, v = .ref ad ∧ H ad = some (.tup (actVals a))
theorem ActAt.monoN {H H' : Hp} {v : V} {d : Option Deed} (h : ActAt H v d) (s : SameN H H') : ActAt H' v d := by
  obtain ⟨a, h1, h2⟩ := h
  exact ⟨a, h1, s _ _ h2 (fun l z => by cases z)⟩
def ActAz : Option Deed → Prop
  | some d => d.Az
  | none => True
theorem ActSt.az {s0 : Sh} {c c' : Chain} {a : Option Deed} (h : ActSt s0 c a c') (ok : ChOk c s0) : ActAz a := by
  cases h with
  | deed st => exact st.dAz ok.cur
  | undo => trivial
theorem Run.az {s0 : Sh} {c c' : Chain} {as : List (Option Deed)} (h : Run s0 c as c') (ok : ChOk c s0) : ∀ a ∈ as, ActAz a := by
  induction h with
  | nil => intro a ha; cases ha
  | cons st _ ih =>
    intro a ha
    rcases List.mem_cons.mp ha with rfl | ha
    · exact st.az ok
    · exact ih (st.ok ok) a ha
theorem act_parts {d : Option Deed} (az : ActAz d) : ∃ (ds : List PyData) (q : Str × Int) (rest : List V), actVals d = .str q.1 :: rest ∧ q ∈ partL ∧ ((actVals d).length : Int) = q.2 ∧ (∀ (K : PySem.W.Frag) H, DpAll K H (actVals d) ds) ∧ SeqAt.shaped (.tuple ds) = true := by
  cases d with
  | none => exact ⟨[.str "undo"], ("undo", 1), [], rfl, by simp [partL], rfl, fun _ _ => .cons (.str _) .nil, by decide +kernel⟩
  | some d =>
    have sh : SeqAt.shaped (.tuple d.datas) = true := shaped_of (lay_deed az) (by have := depth_deed d; unfold Deed.data at this; omega)
    cases d with
    | press y => exact ⟨_, ("press", 2), _, rfl, by simp [partL], rfl, fun _ _ => dp_deed (.press y) _, sh⟩
    | back n => exact ⟨_, ("back", 2), _, rfl, by simp [partL], rfl, fun _ _ => dp_deed (.back n) _, sh⟩
    | learn e => exact ⟨_, ("learn", 3), _, rfl, by simp [partL], rfl, fun _ _ => dp_deed (.learn e) _, sh⟩
    | forget y => exact ⟨_, ("forget", 2), _, rfl, by simp [partL], rfl, fun _ _ => dp_deed (.forget y) _, sh⟩
    | slips p => exact ⟨_, ("slips", 5), _, rfl, by simp [partL], rfl, fun _ _ => dp_deed (.slips p) _, sh⟩
theorem dp_act {K : PySem.W.Frag} {H : Hp} {a : Addr} {d : Option Deed} (h : H a = some (.tup (actVals d))) : Dp K H (.ref a) (actData d) := by
  cases d with
  | none => exact .tup (SqT.of h) (.cons (.str _) .nil)
  | some d => exact .tup (SqT.of h) (dp_deed d H)
theorem shaped_act {d : Option Deed} (h : ActAz d) : SeqAt.shaped (actData d) = true := by
  cases d with
  | none => decide +kernel
  | some d => exact shaped_of (lay_deed h) (by have := depth_deed d; show d.data.depth ≤ 64; omega)
theorem eqv_undo (d : Option Deed) : PyData.eqv (actData d) (.tuple [.str "undo"]) = d.isNone := by
  cases d with
  | none => decide +kernel
  | some d => exact undo_ne d
theorem upd_comm {H : Hp} {a b : Addr} {x y : HO} (h : a ≠ b) : upd (upd H a x) b y = upd (upd H b y) a x := by
  funext c
  by_cases q : c = b
  · subst q
    rw [upd_same, upd_ne (Ne.symm h), upd_same]
  · rw [upd_ne q]
    by_cases q2 : c = a
    · subst q2
      rw [upd_same, upd_same]
    · rw [upd_ne q2, upd_ne q2, upd_ne q]
section
variable {P : Program} {w : World} {K : PySem.W.Frag} {mg : Str → Option Value} {base : Heap}
def N_deeds_to : List Str := ["moment", "found"]
theorem sc_deeds_to : FnScope N_deeds_to ["moment"] (defScope (top 45)) := ⟨rfl, rfl, rfl, by decide +kernel, rfl, by decide +kernel, by decide +kernel⟩
def spDeedsTo (K : PySem.W.Frag) : Sp := fun vs H Q _ => ∃ (a : Addr) (c : Chain) (s0 : Sh), vs = [.ref a] ∧ MomAt K H a c s0 ∧ c.length ≤ 1000 ∧ ∀ (l : Addr) (refs : List V) H', Same H H' → H l = none → H' l = some (.lst refs) → Paired (DeedAt H') refs (c.map Prod.fst).reverse → Q (.ref l) H'
theorem paired_rev {α β : Type} {F : α → β → Prop} {l : List α} {m : List β} (p : Paired F l m) : Paired F l.reverse m.reverse := by
  induction p with
  | nil => exact .nil
  | cons h _ ih =>
    rw [List.reverse_cons, List.reverse_cons]
    exact Paired.snoc ih h
theorem c_deeds_to (T : Tx P w K mg) : Cl P w K mg base CX0 1 "deeds_to" (spDeedsTo K) := by
  have S := sc_deeds_to
  refine mkCl0 T.d_deeds_to T.gf_deeds_to S (fun _ _ _ _ _ _ us hl => match us, hl with | [_], _ => rfl) (fun vs H Q E h => ?_) (fun cdv A outer s H vs Q E hr h => ?_)
  · obtain ⟨a, c, s0, rfl, _⟩ := h
    rfl
  · obtain ⟨a, c, s0, rfl, hm, hl, k⟩ := h
    refine ⟨_, (pss_cons (ps_set (i := 1) S.nd rfl (Or.inl rfl) (pe_lst pa_nil))
    (pss_cons (ps_while PassesOwn.never (pt_cmpR op_notN (pe_fld (pv 0) rfl) pe_non (nomark _)) (pss_cons (ps_expr (pe_bm PySem.F.plainAttrs_list PySem.F.slot_list_append PySem.F.type_list_append mt_append (pv 1) (pa_cons (pe_fld (pv 0) rfl) pa_nil)))
    (pss_one (ps_set (i := 0) S.nd rfl (Or.inl rfl) (pe_fld (pv 0) rfl)))))
    (pss_one (ps_ret (pe_revL (pv 1)))))), ?_⟩
    refine ⟨sz0, fun l hnl => ?_⟩
    have cM := T.cl_Moment
    refine ⟨fun m σ H' => ∃ (b : Addr) (c1 c2 : Chain) (refs : List V), m = c2.length ∧ c = c1 ++ c2 ∧ σ = [some (.ref b), some (.ref l)] ∧ Same H H' ∧ MomAt K H b c2 s0 ∧ H' l = some (.lst refs) ∧ Paired (DeedAt H) refs (c1.map Prod.fst), ⟨_, a, [], c, [], rfl, rfl, rfl, Same.new hnl, hm, upd_same, .nil⟩, fun m σ H1 pv => ?_⟩
    obtain ⟨b, c1, c2, refs, rfl, rfl, rfl, s1, hm1, hl1, pr⟩ := pv
    cases c2 with
    | nil =>
      obtain ⟨dx, sp, hb, _⟩ := id hm1
      refine ⟨_, rfl, b, _, dx, _, _, rfl, s1 _ _ hb, cM, T.na_Moment_q_before, moF_b, rfl, _, rfl, iteF ?_⟩
      refine ⟨_, rfl, l, refs, rfl, SqL.of hl1, fun q hq => ?_⟩
      refine k q refs.reverse _ (s1.trans (Same.new hq)) (s1.free hq) upd_same ?_
      rw [List.append_nil]
      exact Paired.mapP (paired_rev pr) fun _ _ h => h.monoN (Same.n (s1.trans (Same.new hq)))
    | cons q c3 =>
      obtain ⟨d, s⟩ := q
      obtain ⟨da, b', ⟨dx, sp, hb, hsp⟩, hda, hm2⟩ := id hm1
      refine ⟨_, rfl, b, _, dx, _, _, rfl, s1 _ _ hb, cM, T.na_Moment_q_before, moF_b, rfl, _, rfl, iteT ?_⟩
      have lr := pr.length
      rw [List.length_map] at lr
      rw [List.length_append] at hl
      refine ⟨_, fun σ' H' h => h, _, rfl, .inl ⟨rfl, _, .inl (.inl hl1)⟩, ?_⟩
      have bl : b ≠ l := ne_of_none hb hnl
      refine ⟨_, rfl, b, _, dx, _, _, rfl, s1 _ _ hb, cM, T.na_Moment_q_deed, moF_d, l, _, _, rfl, rfl, hl1, small_line (by omega), ?_⟩
      refine ⟨_, rfl, b, _, dx, _, _, rfl, by rw [upd_ne bl]; exact s1 _ _ hb, cM, T.na_Moment_q_before, moF_b, ?_⟩
      refine ⟨c3.length, Nat.lt_succ_self _, b', c1 ++ [(d, s)], c3, refs ++ [.ref da], rfl, by simp, rfl, fun x o e => ?_, hm2, upd_same, ?_⟩
      · rw [upd_ne (ne_of_none e hnl)]
        exact s1 _ _ e
      · rw [List.map_append]
        exact Paired.snoc pr ⟨da, rfl, hda⟩
def N_Session_do : List Str := ["self", "deed"]
theorem sc_Session_do : FnScope N_Session_do ["self", "deed"] (defScope (inClass (top 44) 13)) := ⟨rfl, rfl, rfl, by decide +kernel, rfl, by decide +kernel, by decide +kernel⟩
def spDo (K : PySem.W.Frag) : Sp := fun vs H Q E => ∃ (B M : Hp) (a dx org now da : Addr) (c : Chain) (s0 : Sh), vs = [.ref a, .ref da] ∧ Wd B M H ∧ M a = some (.ins (aSe K) dx (seF org now)) ∧ MomAt K B now c s0 ∧ ChOk c s0 ∧
  ∃ act, B da = some (.tup (actVals act)) ∧
  ((∃ c', ActSt s0 c act c' ∧ ∀ B' now' o H', Same B B' → Wd B' (upd M a (.ins (aSe K) dx (seF org now'))) H' → MomAt K B' now' c' s0 → MeantIs (cur c' s0).p (cur c' s0).x (cur c' s0).es o → Q (moV o) H') ∨
   (∃ d, act = some d ∧ Refused (cur c s0) d ∧ ∀ d' H', H d' = none → Same H H' → H' d' = some (.xd [("at", .int 4)]) → E (.ref (aBE K)) (some d') H'))
theorem c_Session_do (T : Tx P w K mg) : Mt P w K mg base (L2.CX P w) 12 (aSe K) "do" (spDo K) := by
  have S := sc_Session_do
  have c_is_deed := @c_is_deed P w K mg base T
  have c_later_moment := @c_later_moment P w K mg base T
  have c_Session_shown := @c_Session_shown P w K mg base T
  refine mkMt T.d_Session_do T.cl_Session T.me_Session_do S (fun _ _ _ _ _ _ us hl => match us, hl with | [_, _], _ => rfl) (fun vs H Q E h => ?_) (fun cdv A outer s H vs Q E hr h => ?_)
  · obtain ⟨B, M, a, dx, org, now, da, c, s0, rfl, _⟩ := h
    rfl
  · obtain ⟨B, M, a, dx, org, now, da, c, s0, rfl, wd, ha, hm, ok, act, hda, kk⟩ := h
    have tk : Takes (cxOf (L2.CX P w) P w K mg base N_Session_do "Session.do" (defScope (inClass (top 44) 13)) (He.ma K (aSe K) "do") cdv A outer s H E) (fun cls d _ H => E cls d H) := takes_of rfl rfl rfl rfl
    have hx : Passes (L2.CX P w) (cxOf (L2.CX P w) P w K mg base N_Session_do "Session.do" (defScope (inClass (top 44) 13)) (He.ma K (aSe K) "do") cdv A outer s H E) E := passes_call tk fun _ _ _ _ h => h
    refine ⟨_, (pss_cons (ps_if (PW.pt (pw_or (pt_not (pt_val (pe_f c_is_deed hr (by decide) rfl pass0 (pa_cons (pv 1) pa_nil)))) (pw_or1 (PW.pt (pw_and (pt_cmpR (op_eqD hr.units) (pv 1) (pe_tup (pa_cons pe_str pa_nil)) (nomark _)) (pw_and1 (pt_cmpR op_isN (pe_fld (pe_fld (pv 0) rfl) rfl) pe_non (nomark _)))))))) pss_never pss_nil)
    (pss_cons (ps_fld (pv 0) (pe_ifExp (pt_cmpR (op_eqD hr.units) (pv 1) (pe_tup (pa_cons pe_str pa_nil)) (nomark _)) (pe_fld (pe_fld (pv 0) rfl) rfl) (pe_f c_later_moment hr (by decide) rfl hx (pa_cons (pe_fld (pv 0) rfl) (pa_cons (pv 1) pa_nil)))) rfl)
    (pss_one (ps_ret (pe_p c_Session_shown hr (by decide) pass0 (pv 0)))))), ?_⟩
    have cS := T.cl_Session
    have cM := T.cl_Moment
    have okc := ok.cur
    have haH := wd.m _ _ ha
    have az : ActAz act := by
      rcases kk with ⟨c', st, _⟩ | ⟨d, rfl, rf, _⟩
      · exact st.az ok
      · exact rf.dAz
    obtain ⟨ds, q, rest, p1, p2, p3, p4, p5⟩ := act_parts az
    refine ⟨_, rfl, da, _, ds, q, rest, rfl, wd.b _ _ hda, p1, p2, p3, p4, p5, fun H1 s1 => ⟨_, rfl, iteF ?_⟩⟩
    have w1 := wd.mono s1
    refine ⟨_, rfl, sz1, fun u hu => ?_⟩
    have w2 := w1.mono (Same.new (o := .tup [.str "undo"]) hu)
    refine ⟨actData act, .tuple [.str "undo"], dp_act (w2.b _ _ hda), .tup (SqT.of upd_same) (.cons (.str _) .nil), shaped_act az, by decide +kernel, ?_⟩
    rw [eqv_undo]
    refine ⟨_, rfl, ?_⟩
    have w2H := fun {b : Addr} {o : HO} (h : M b = some o) => w2.m _ _ h
    cases act with
    | none =>
      rcases kk with ⟨c', st, kk⟩ | ⟨d, hd, _⟩
      · cases st with
        | @undo _ q =>
          obtain ⟨d1, s1'⟩ := q
          obtain ⟨da1, b1, hmo, hda1, hm1⟩ := id hm
          obtain ⟨mdx, sp, hmo1, hmo2⟩ := id hmo
          refine iteT ⟨_, rfl, a, _, dx, _, _, rfl, w2H ha, cS, T.na_Session_v_now, seF_n, now, _, mdx, _, _, rfl, w2.b _ _ hmo1, cM, T.na_Moment_q_before, moF_b, rfl, _, rfl, iteF ?_⟩
          refine ⟨_, rfl, sz1, fun u2 hu2 => ?_⟩
          have w3 := w2.mono (Same.new (o := .tup [.str "undo"]) hu2)
          refine ⟨actData none, .tuple [.str "undo"], dp_act (w3.b _ _ hda), .tup (SqT.of upd_same) (.cons (.str _) .nil), shaped_act az, by decide +kernel, ?_⟩
          rw [eqv_undo]
          refine ⟨_, rfl, iteT ⟨_, rfl, a, _, dx, _, _, rfl, w3.m _ _ ha, cS, T.na_Session_v_now, seF_n, now, _, mdx, _, _, rfl, w3.b _ _ hmo1, cM, T.na_Moment_q_before, moF_b, ?_⟩⟩
          refine ⟨_, rfl, fld_put w3 ha cS T.na_Session_v_now (show 3 < 1000 by decide) fun H4 w4 => ?_⟩
          rw [seF_now] at w4
          obtain ⟨d5, b5, hd5⟩ := hm1.hd
          refine ⟨_, rfl, a, dx, _, rfl, w4.m _ _ upd_same, a, dx, org, b1, cur c' s0, d5, b5, rfl, w4.m _ _ upd_same, hd5.mono w4.b, ok.2.cur, fun o H5 s5 hmi => ?_⟩
          exact kk B b1 o H5 (Same.refl _) (w4.mono s5) hm1 hmi
      · cases hd
    | some d =>
      refine iteF (iteF ?_)
      refine ⟨_, rfl, sz1, fun u2 hu2 => ?_⟩
      have w3 := w2.mono (Same.new (o := .tup [.str "undo"]) hu2)
      have s03 := (s1.trans (Same.new (o := .tup [.str "undo"]) hu)).trans (Same.new (o := .tup [.str "undo"]) hu2)
      refine ⟨actData (some d), .tuple [.str "undo"], dp_act (w3.b _ _ hda), .tup (SqT.of upd_same) (.cons (.str _) .nil), shaped_act az, by decide +kernel, ?_⟩
      rw [eqv_undo]
      refine ⟨_, rfl, iteF ⟨_, rfl, a, _, dx, _, _, rfl, w3.m _ _ ha, cS, T.na_Session_v_now, seF_n, _, rfl, ?_⟩⟩
      obtain ⟨dv, bv, hmo⟩ := hm.hd
      refine ⟨B, M, now, da, cur c s0, d, dv, bv, rfl, w3, hmo, hda, okc, ?_⟩
      rcases kk with ⟨c', st, kk⟩ | ⟨d', hd', rf, kk⟩
      · cases st with
        | @deed _ _ s' st =>
          refine .inl ⟨s', st, fun B4 mo' H4 s4 w4 hmo4 => ?_⟩
          refine ⟨_, rfl, fld_put w4 ha cS T.na_Session_v_now (show 3 < 1000 by decide) fun H5 w5 => ?_⟩
          rw [seF_now] at w5
          have hm5 : MomAt K B4 mo' ((d, s') :: c) s0 := ⟨da, now, hmo4, s4 _ _ hda, hm.mono s4⟩
          refine ⟨_, rfl, a, dx, _, rfl, w5.m _ _ upd_same, a, dx, org, mo', s', _, _, rfl, w5.m _ _ upd_same, hmo4.mono w5.b, st.ok okc, fun o H6 s6 hmi => ?_⟩
          exact kk B4 mo' o H6 s4 (w5.mono s6) hm5 hmi
      · obtain rfl := Option.some.inj hd'
        exact .inr ⟨rf, fun d5 H5 hn ss hd5 => kk d5 H5 (s03.free hn) (s03.trans ss) hd5⟩
end
end Mw
/-! W16: further methods of sessions -/
namespace Mw
open PySem PySem.Spec PyProof.Rows L2
section
variable {P : Program} {w : World} {K : PySem.W.Frag} {mg : Str → Option Value} {base : Heap}
def N_Session_deeds : List Str := ["self"]
theorem sc_Session_deeds : FnScope N_Session_deeds ["self"] (defScope (inClass (top 44) 15)) := ⟨rfl, rfl, rfl, by decide +kernel, rfl, by decide +kernel, by decide +kernel⟩
def spSesDeeds (K : PySem.W.Frag) : Sp := fun vs H Q _ => ∃ (a dx org now : Addr) (c : Chain) (s0 : Sh), vs = [.ref a] ∧ H a = some (.ins (aSe K) dx (seF org now)) ∧ MomAt K H now c s0 ∧ c.length ≤ 1000 ∧
  ∀ (l : Addr) (refs : List V) H', Same H H' → H l = none → H' l = some (.lst refs) → Paired (DeedAt H') refs (c.map Prod.fst).reverse → Q (.ref l) H'
theorem c_Session_deeds (T : Tx P w K mg) : Mt P w K mg base CX0 2 (aSe K) "deeds" (spSesDeeds K) := by
  have S := sc_Session_deeds
  have c_deeds_to := @c_deeds_to P w K mg base T
  refine mkMt0 T.d_Session_deeds T.cl_Session T.me_Session_deeds S (fun _ _ _ _ _ _ us hl => match us, hl with | [_], _ => rfl) (fun vs H Q E h => ?_) (fun cdv A outer s H vs Q E hr h => ?_)
  · obtain ⟨a, dx, org, now, c, s0, rfl, _⟩ := h
    rfl
  · obtain ⟨a, dx, org, now, c, s0, rfl, ha, hm, hl, k⟩ := h
    refine ⟨_, (pss_one (ps_ret (pe_f c_deeds_to hr (by decide) rfl pass0 (pa_cons (pe_fld (pv 0) rfl) pa_nil)))), ?_⟩
    exact ⟨_, rfl, a, _, dx, _, _, rfl, ha, T.cl_Session, T.na_Session_v_now, seF_n, now, c, s0, rfl, hm, hl, k⟩
def N_Session_twin : List Str := ["self", "other"]
theorem sc_Session_twin : FnScope N_Session_twin ["self"] (defScope (inClass (top 44) 16)) := ⟨rfl, rfl, rfl, by decide +kernel, rfl, by decide +kernel, by decide +kernel⟩
def spTwin (K : PySem.W.Frag) : Sp := fun vs H Q _ => ∃ (B M : Hp) (a dx org now : Addr) (es : List Ent) (p : Sl), vs = [.ref a] ∧ Wd B M H ∧ M a = some (.ins (aSe K) dx (seF org now)) ∧ SpellerAt K B org es p ∧
  ∀ B' b dx' H', Same B B' → M b = none → Wd B' (upd M b (.ins (aSe K) dx' (seF org now))) H' → Q (.ref b) H'
theorem c_Session_twin (T : Tx P w K mg) : Mt P w K mg base CX0 5 (aSe K) "twin" (spTwin K) := by
  have S := sc_Session_twin
  have c_Session := @c_Session P w K mg base T
  refine mkMt0 T.d_Session_twin T.cl_Session T.me_Session_twin S (fun _ _ _ _ _ _ us hl => match us, hl with | [_], _ => rfl) (fun vs H Q E h => ?_) (fun cdv A outer s H vs Q E hr h => ?_)
  · obtain ⟨B, M, a, dx, org, now, es, p, rfl, _⟩ := h
    rfl
  · obtain ⟨B, M, a, dx, org, now, es, p, rfl, wd, ha, hsp, k⟩ := h
    refine ⟨_, (pss_cons (ps_set (i := 1) S.nd rfl (Or.inl rfl) (pe_n c_Session hr (by decide) rfl pass0 (pa_cons (pe_fld (pv 0) rfl) pa_nil)))
    (pss_cons (ps_fld (pv 1) (pe_fld (pv 0) rfl) rfl)
    (pss_one (ps_ret (pv 1))))), ?_⟩
    have cS := T.cl_Session
    refine ⟨_, rfl, a, _, dx, _, _, rfl, wd.m _ _ ha, cS, T.na_Session_v_origin, seF_o, fun b bdx hb hbd bne => ?_⟩
    have hMb : M b = none := wd.fm hb
    refine session_made wd hb hbd bne hsp fun B2 n2 H2 s2 w2 hm2 => ?_
    have hab : a ≠ b := ne_of_none ha hMb
    have ha2 : (upd M b (.ins (aSe K) bdx (seF org n2))) a = some (.ins (aSe K) dx (seF org now)) := by rw [upd_ne hab]; exact ha
    refine ⟨_, rfl, a, _, dx, _, _, rfl, w2.m _ _ ha2, cS, T.na_Session_v_now, seF_n, _, rfl, fld_put w2 upd_same cS T.na_Session_v_now (show 3 < 1000 by decide) fun H3 w3 => ?_⟩
    rw [seF_now, upd_upd] at w3
    exact ⟨_, rfl, k B2 b bdx H3 s2 hMb w3⟩
def N_Session_eq : List Str := ["self", "other", "is_same"]
theorem sc_Session_eq : FnScope N_Session_eq ["self", "other"] (defScope (inClass (top 44) 5)) := ⟨rfl, rfl, rfl, by decide +kernel, rfl, by decide +kernel, by decide +kernel⟩
def sameSes (c : Chain) (s0 : Sh) (c2 : Chain) (s2 : Sh) : Prop := cur c s0 = cur c2 s2 ∧ c.map Prod.fst = c2.map Prod.fst
instance (c : Chain) (s0 : Sh) (c2 : Chain) (s2 : Sh) : Decidable (sameSes c s0 c2 s2) := by unfold sameSes; infer_instance
def spSesEq (K : PySem.W.Frag) : Sp := fun vs H Q _ => ∃ (a dx org now : Addr) (c : Chain) (s0 : Sh) (v : V), vs = [.ref a, v] ∧ H a = some (.ins (aSe K) dx (seF org now)) ∧ MomAt K H now c s0 ∧ ChOk c s0 ∧ c.length ≤ 1000 ∧
  ((∃ (b dx2 org2 now2 : Addr) (c2 : Chain) (s2 : Sh), v = .ref b ∧ H b = some (.ins (aSe K) dx2 (seF org2 now2)) ∧ MomAt K H now2 c2 s2 ∧ ChOk c2 s2 ∧ c2.length ≤ 1000 ∧ ∀ H', Same H H' → Q (.bl (decide (sameSes c s0 c2 s2))) H') ∨
   (∃ (b dx2 : Addr) (fs : List (Str × V)), v = .ref b ∧ H b = some (.ins (aSp K) dx2 fs) ∧ Q (.bl false) H) ∨ (v = .non ∧ Q (.bl false) H))
theorem deeds_az {c : Chain} {s0 : Sh} (ok : ChOk c s0) : ∀ d ∈ c.map Prod.fst, d.Az := by
  induction c with
  | nil => intro d hd; cases hd
  | cons q r ih =>
    obtain ⟨d1, s1⟩ := q
    intro d hd
    rcases List.mem_cons.mp hd with rfl | hd
    · exact ok.1.dAz ok.2.cur
    · exact ih ok.2 d hd
theorem dp_deeds {H : Hp} {vs : List V} {ds : List Deed} (p : Paired (DeedAt H) vs ds) : DpAll K H vs (ds.map Deed.data) := by
  induction p with
  | nil => exact .nil
  | cons h _ ih =>
    obtain ⟨a, rfl, ha⟩ := h
    exact .cons (.tup (SqT.of ha) (dp_deed _ _)) ih
theorem shaped_deeds {ds : List Deed} (h : ∀ d ∈ ds, d.Az) : SeqAt.shaped (.list (ds.map Deed.data)) = true := by
  refine shaped_of ?_ ?_
  · rw [PyData.canLay0]
    exact lay_map fun d hd => lay_deed (h d hd)
  · rw [PyData.depth]
    have : PyData.depthAll (ds.map Deed.data) ≤ 1 := depth_map fun d _ => Nat.le_of_eq (depth_deed d)
    omega
theorem c_Session___eq__ (T : Tx P w K mg) : Mt P w K mg base CX0 3 (aSe K) "__eq__" (spSesEq K) := by
  have S := sc_Session_eq
  have c_Speller___eq__ := @c_Speller___eq__ P w K mg base T
  have c_deeds_to := @c_deeds_to P w K mg base T
  refine mkMt0 T.d_Session___eq__ T.cl_Session T.me_Session___eq__ S (fun _ _ _ _ _ _ us hl => match us, hl with | [_, _], _ => rfl) (fun vs H Q E h => ?_) (fun cdv A outer s H vs Q E hr h => ?_)
  · obtain ⟨a, dx, org, now, c, s0, v, rfl, _⟩ := h
    rfl
  · obtain ⟨a, dx, org, now, c, s0, v, rfl, ha, hm, ok, hl, kk⟩ := h
    refine ⟨_, (pss_cons (ps_if (pt_not (pt_val (pe_callB call_isi rfl T.n_isinstance bt_isinstance (pa_cons (pv 1) (pa_cons (pe_glob (v := .ref (He.ga K "Session")) rfl T.g_Session rfl) pa_nil))))) (pss_one (ps_ret pe_bl)) pss_nil)
    (pss_cons (ps_set (i := 2) S.nd rfl (Or.inl rfl) (pe_and (pe_cmpR (op_eqO c_Speller___eq__ hr (by decide) pass0) (pe_fld (pe_fld (pv 0) rfl) rfl) (pe_fld (pe_fld (pv 1) rfl) rfl) (nomark _)) (pe_one (pe_cmpR op_eq (pe_fld (pe_fld (pv 0) rfl) rfl) (pe_fld (pe_fld (pv 1) rfl) rfl) (nomark _)))))
    (pss_one (ps_ret (pe_and (pv 2) (pe_one (pe_cmpR (op_eqD hr.units) (pe_f c_deeds_to hr (by decide) rfl pass0 (pa_cons (pe_fld (pv 0) rfl) pa_nil)) (pe_f c_deeds_to hr (by decide) rfl pass0 (pa_cons (pe_fld (pv 1) rfl) pa_nil)) (nomark _)))))))), ?_⟩
    have cS := T.cl_Session
    have cM := T.cl_Moment
    rcases kk with ⟨b, dx2, org2, now2, c2, s2, rfl, hb, hm2, ok2, hl2, k⟩ | ⟨b, dx2, fs, rfl, hb, k⟩ | ⟨rfl, k⟩
    · refine ⟨_, rfl, _, _, _, _, true, rfl, .own _, tyx_own T.ic_Session hb, T.ic_Session.me, _, rfl, iteF ?_⟩
      obtain ⟨dv, bv, mdx, sp, h1, h2⟩ := hm.hd
      obtain ⟨dv2, bv2, mdx2, sp2, h3, h4⟩ := hm2.hd
      obtain ⟨sdx, u, sa, q1, _⟩ := id h2
      obtain ⟨sdx2, u2, sa2, q2, _⟩ := id h4
      refine ⟨_, rfl, a, _, dx, _, _, rfl, ha, cS, T.na_Session_v_now, seF_n, now, _, mdx, _, _, rfl, h1, cM, T.na_Moment_q_speller, moF_s, _, rfl, b, _, dx2, _, _, rfl, hb, cS, T.na_Session_v_now, seF_n, now2, _, mdx2, _, _, rfl, h3, cM, T.na_Moment_q_speller, moF_s, ?_⟩
      refine ⟨Oth.same q2, sp, sdx, _, rfl, q1, sp, sp2, _, _, _, _, rfl, h2, h4, ok.cur.es, ok2.cur.es, fun H1 s1 => ⟨_, rfl, _, rfl, ?_⟩⟩
      refine ite2 (fun z => ?_) (fun z => ?_)
      · have e1 := of_decide_eq_true z
        refine ⟨_, rfl, a, _, dx, _, _, rfl, s1 _ _ ha, cS, T.na_Session_v_now, seF_n, now, _, mdx, _, _, rfl, s1 _ _ h1, cM, T.na_Moment_q_text, moF_t, _, rfl, b, _, dx2, _, _, rfl, s1 _ _ hb, cS, T.na_Session_v_now, seF_n, now2, _, mdx2, _, _, rfl, s1 _ _ h3, cM, T.na_Moment_q_text, moF_t, rfl, ?_⟩
        refine ⟨_, rfl, _, rfl, ite2 (fun z2 => ?_) (fun z2 => ?_)⟩
        · have e2 : (cur c s0).x = (cur c2 s2).x := tx_V.mp (of_decide_eq_true z2)
          refine ⟨_, rfl, a, _, dx, _, _, rfl, s1 _ _ ha, cS, T.na_Session_v_now, seF_n, now, c, s0, rfl, hm.mono s1, hl, fun l refs H2 s12 _ hl2' pd => ?_⟩
          have sx2 := s1.trans s12
          refine ⟨_, rfl, b, _, dx2, _, _, rfl, sx2 _ _ hb, cS, T.na_Session_v_now, seF_n, now2, c2, s2, rfl, hm2.mono sx2, hl2, fun l2 refs2 H3 s23 _ hl3 pd2 => ?_⟩
          refine ⟨.list ((c.map Prod.fst).reverse.map Deed.data), .list ((c2.map Prod.fst).reverse.map Deed.data), .lst (SqL.of (s23 _ _ hl2')) (dp_deeds (Paired.mapP pd fun _ _ h => h.monoN (Same.n s23))), .lst (SqL.of hl3) (dp_deeds pd2), shaped_deeds (fun d hd => deeds_az ok d (List.mem_reverse.mp hd)), shaped_deeds (fun d hd => deeds_az ok2 d (List.mem_reverse.mp hd)), ?_⟩
          have ev : PyData.eqv (.list ((c.map Prod.fst).reverse.map Deed.data)) (.list ((c2.map Prod.fst).reverse.map Deed.data)) = decide (sameSes c s0 c2 s2) := by
            rw [PyData.eqv, eqvAll_map' eqv_deed]
            refine decide_eq_decide.mpr ⟨fun h => ⟨?_, List.reverse_inj.mp h⟩, fun h => by rw [h.2]⟩
            have f1 := e1.1
            have f2 := e1.2
            revert f1 f2 e2
            generalize cur c s0 = u1
            generalize cur c2 s2 = u2
            obtain ⟨_, _, _⟩ := u1
            obtain ⟨_, _, _⟩ := u2
            rintro rfl rfl rfl
            rfl
          rw [ev]
          exact k _ (sx2.trans s23)
        · have := k _ s1
          rw [decide_eq_false (fun h : sameSes c s0 c2 s2 => z2 (decide_eq_true (by rw [h.1])))] at this
          exact this
      · refine ⟨_, rfl, _, rfl, iteF ?_⟩
        have := k _ s1
        rw [decide_eq_false (fun h : sameSes c s0 c2 s2 => z (decide_eq_true (by rw [h.1]; exact ⟨rfl, rfl⟩)))] at this
        exact this
    · refine ⟨_, rfl, _, _, _, _, false, rfl, .own _, tyx_own T.ic_Speller hb, T.ko_Speller, _, rfl, iteT ?_⟩
      exact k
    · refine ⟨_, rfl, _, _, _, _, false, rfl, .own _, .base .non, T.ko_None, _, rfl, iteT ?_⟩
      exact k
def N_Session_do_all : List Str := ["self", "deeds", "at", "deed", "kept", "found"]
theorem sc_Session_do_all : FnScope N_Session_do_all ["self", "deeds"] (defScope (inClass (top 44) 14)) := ⟨rfl, rfl, rfl, by decide +kernel, rfl, by decide +kernel, by decide +kernel⟩
def spDoAll (K : PySem.W.Frag) : Sp := fun vs H Q _ => ∃ (B M : Hp) (a dx org now l : Addr) (c c' : Chain) (s0 : Sh) (refs : List V) (acts : List (Option Deed)), vs = [.ref a, .ref l] ∧ Wd B M H ∧ M a = some (.ins (aSe K) dx (seF org now)) ∧ MomAt K B now c s0 ∧ ChOk c s0 ∧
  B l = some (.lst refs) ∧ Paired (ActAt B) refs acts ∧ acts.length ≤ 1000 ∧ Run s0 c acts c' ∧ ∀ v B' now' H', Same B B' → Wd B' (upd M a (.ins (aSe K) dx (seF org now'))) H' → MomAt K B' now' c' s0 → Q v H'
theorem Run.drop {s0 : Sh} {c c' : Chain} {acts : List (Option Deed)} {i : Nat} (h : Run s0 c (acts.drop i) c') {act : Option Deed} (ha : acts[i]? = some act) : ∃ c1, ActSt s0 c act c1 ∧ Run s0 c1 (acts.drop (i + 1)) c' := by
  rw [List.drop_eq_getElem_cons (List.getElem?_eq_some_iff.mp ha).1] at h
  rw [(List.getElem?_eq_some_iff.mp ha).2] at h
  cases h with
  | cons st r => exact ⟨_, st, r⟩
theorem c_Session_do_all (T : Tx P w K mg) : Mt P w K mg base CX0 13 (aSe K) "do_all" (spDoAll K) := by
  have S := sc_Session_do_all
  have c_is_deed := @c_is_deed P w K mg base T
  have c_Session_do := @c_Session_do P w K mg base T
  refine mkMt0 T.d_Session_do_all T.cl_Session T.me_Session_do_all S (fun _ _ _ _ _ _ us hl => match us, hl with | [_, _], _ => rfl) (fun vs H Q E h => ?_) (fun cdv A outer s H vs Q E hr h => ?_)
  · obtain ⟨B, M, a, dx, org, now, l, c, c', s0, refs, acts, rfl, _⟩ := h
    rfl
  · obtain ⟨B, M, a, dx, org, now, l, c, c', s0, refs, acts, rfl, wd, ha, hm, ok, hl, pa, la, run, k⟩ := h
    refine ⟨_, (pss_cons (ps_if (pt_not (pt_val (pe_callB call_isiT rfl T.n_isinstance bt_isinstance (pa_cons (pv 1) (pa_cons (pe_tup (pa_cons (pe_bltn (v := .ty "list") rfl T.n_list bt_list rfl) (pa_cons (pe_bltn (v := .ty "tuple") rfl T.n_tuple bt_tuple rfl) pa_nil))) pa_nil))))) pss_never pss_nil)
    (pss_cons (ps_for PassesOwn.never rfl (pi_enumA (by rfl) T.n_enumerate (pa_cons (pv 1) pa_nil)) (pg_tup rfl (pgs_cons (pg_name (i := 2) S.nd rfl (Or.inl rfl)) (pgs_cons (pg_name (i := 3) S.nd rfl (Or.inl rfl)) pgs_nil)))
    (pss_one (ps_if (pt_not (pt_val (pe_f c_is_deed hr (by decide) rfl pass0 (pa_cons (pv 3) pa_nil)))) pss_never pss_nil)))
    (pss_cons (ps_par (i := 4) (j := 5) (by rfl) S.nd rfl rfl (by decide) rfl rfl (pa_cons (pe_fld (pv 0) rfl) (pa_cons (pe_lst pa_nil) pa_nil)) (by rfl))
    (pss_cons (ps_try_thru0 (pss_one (ps_for PassesOwn.never rfl (pi_list (pv 1)) (pg_name (i := 3) S.nd rfl (Or.inl rfl))
    (pss_one (ps_expr (pe_bm PySem.F.plainAttrs_list PySem.F.slot_list_append PySem.F.type_list_append mt_append (pv 5) (pa_cons (pe_m c_Session_do hr (by decide) passN (pv 0) (pa_cons (pv 3) pa_nil)) pa_nil)))))))
    (pss_one (ps_ret (pv 5))))))), ?_⟩
    have cS := T.cl_Session
    have lr := pa.length
    refine ⟨_, rfl, sz2, fun u hu => ?_⟩
    have su : Same H (upd H u (.tup [.ty "list", .ty "tuple"])) := Same.new hu
    refine ⟨_, u, _, _, _, true, rfl, upd_same, .cons (.ty _) (.cons (.ty _) .nil), .base (.lst (su _ _ (wd.b _ _ hl))), kitAny_cons (b := true) (kit_ty (by decide +kernel)) (fun z => by cases z) (fun _ => rfl), _, rfl, iteF ?_⟩
    have w1 := wd.mono su
    refine ⟨_, rfl, l, refs, rfl, .inl ⟨SqL.of (w1.b _ _ hl), ?_⟩⟩
    refine for_it (walk_enum (xs := refs)) (fun i σ H' => (∃ b2 b3, σ = [some (.ref a), some (.ref l), b2, b3, none, none]) ∧ Wd B M H') ⟨⟨_, _, rfl⟩, w1⟩ (fun _ _ H' _ pv => SqL.of (pv.2.b _ _ hl)) (fun i x σ1 H' H1 hi pv y => ?_) (fun σ1 H1 pv => ?_)
    · obtain ⟨⟨b2, b3, rfl⟩, w2⟩ := pv
      obtain ⟨T', x', y', rfl, hT, rfl, hx', hy'⟩ := y
      obtain rfl := Option.some.inj hx'
      obtain ⟨act, hact, ⟨ad, rfl, had⟩⟩ := paired_at pa hy'
      have az := run.az ok act (List.mem_of_getElem? hact)
      obtain ⟨ds, q, rest, p1, p2, p3, p4, p5⟩ := act_parts az
      have w3 := w2.mono (Same.new (o := .tup [.int (i : Nat), .ref ad]) hT)
      refine ⟨T', _, rfl, SqT.of upd_same, rfl, _, _, rfl, _, _, rfl, rfl, ?_⟩
      exact ⟨_, rfl, ad, _, ds, q, rest, rfl, w3.b _ _ had, p1, p2, p3, p4, p5, fun H4 s4 => ⟨_, rfl, iteF ⟨⟨_, _, rfl⟩, w3.mono s4⟩⟩⟩
    · obtain ⟨⟨b2, b3, rfl⟩, w2⟩ := pv
      refine ⟨_, rfl, a, _, dx, _, _, rfl, w2.m _ _ ha, cS, T.na_Session_v_now, seF_n, sz0, fun fl hfl => ?_⟩
      have afl : a ≠ fl := ne_of_none ha (w2.fm hfl)
      have Mfl : ∀ o, (upd M a o) fl = none := fun o => by rw [upd_ne (Ne.symm afl)]; exact w2.fm hfl
      have w3 := w2.newM hfl (o := .lst [])
      refine ⟨_, _, rfl, _, rfl, l, rfl, ⟨refs, SqL.of (w3.b _ _ hl)⟩, ?_⟩
      refine for_it (walk_list (xs := refs)) (fun i σ H' => ∃ (B1 : Hp) (now1 : Addr) (c1 : Chain) (xs : List V) (b3 : Option V), σ = [some (.ref a), some (.ref l), b2, b3, some (.ref now), some (.ref fl)] ∧ Same B B1 ∧ Wd B1 (upd (upd M a (.ins (aSe K) dx (seF org now1))) fl (.lst xs)) H' ∧ MomAt K B1 now1 c1 s0 ∧ ChOk c1 s0 ∧ Run s0 c1 (acts.drop i) c' ∧ xs.length = i)
        ⟨B, now, c, [], _, rfl, Same.refl _, by rw [upd_eta ha]; exact w3, hm, ok, run, rfl⟩ (fun _ _ H' _ pv => ?_) (fun i x σ1 H' H2 hi pv y => ?_) (fun σ1 H2 pv => ?_)
      · obtain ⟨B1, now1, c1, xs, b3, rfl, sB, w4, _⟩ := pv
        exact SqL.of (w4.b _ _ (sB _ _ hl))
      · obtain ⟨B1, now1, c1, xs, b3, rfl, sB, w4, hm1, ok1, run1, xl⟩ := pv
        obtain ⟨rfl, hv⟩ := y
        obtain ⟨act, hact, ⟨ad, rfl, had⟩⟩ := paired_at pa hv
        obtain ⟨c2, st, run2⟩ := run1.drop hact
        have hMa : (upd (upd M a (.ins (aSe K) dx (seF org now1))) fl (.lst xs)) a = some (.ins (aSe K) dx (seF org now1)) := by rw [upd_ne afl, upd_same]
        refine ⟨_, rfl, .inl ⟨rfl, _, .inl (.inl (w4.m _ _ upd_same))⟩, ?_⟩
        refine ⟨_, rfl, a, dx, _, rfl, w4.m _ _ hMa, seF_no (by decide +kernel) (by decide +kernel) (by decide +kernel), _, rfl, B1, _, a, dx, org, now1, ad, c1, s0, rfl, w4, hMa, hm1, ok1, act, sB _ _ had, .inl ⟨c2, st, fun B2 now2 o H3 s2 w5 hm2 hmi => ?_⟩⟩
        rw [upd_comm (Ne.symm afl), upd_upd] at w5
        refine ⟨fl, xs, _, rfl, rfl, w5.m _ _ upd_same, small_line (by omega), B2, now2, c2, xs ++ [moV o], _, rfl, sB.trans s2, ?_, hm2, st.ok ok1, run2, by rw [List.length_append, xl]; rfl⟩
        have w6 := w5.put (o' := .lst (xs ++ [moV o])) upd_same
        rw [upd_upd] at w6
        exact w6
      · obtain ⟨B1, now1, c1, xs, b3, rfl, sB, w4, hm1, ok1, run1, xl⟩ := pv
        rw [lr, List.drop_length] at run1
        cases run1
        exact ⟨_, rfl, k _ B1 now1 H2 sB (w4.less (Same.new (Mfl _))) hm1⟩
end
end Mw
/-! WL: rules for the law's helpers -/
namespace Mw
open PySem PySem.Spec PyProof.Rows L2
theorem paired_get {α β : Type} {F : α → β → Prop} : ∀ {l : List α} {m : List β}, l.length = m.length → (∀ (i : Nat) (a : α) (b : β), l[i]? = some a → m[i]? = some b → F a b) → Paired F l m
  | [], [], _, _ => .nil
  | [], _ :: _, h, _ => by simp at h
  | _ :: _, [], h, _ => by simp at h
  | a :: l, b :: m, h, k => .cons (k 0 a b rfl rfl) (paired_get (by simpa using h) fun i x y h1 h2 => k (i + 1) x y (by simpa using h1) (by simpa using h2))
/-- list(text) -/
theorem call_list_text {X : Cx} (hc : X.calm = true) : CallR X (.type "list") (fun xs H Q => ∃ z, xs = [.str z] ∧ z.length ≤ sizeLine ∧ ∀ l, H l = none → Q (.ref l) (upd H l (.lst (z.cps.toList.map fun c => .str (tx [c]))))) := by
  intro pins s σ H xs us Q I r h
  obtain ⟨z, rfl, hz, q⟩ := h
  obtain ⟨u, rfl, t, rfl⟩ := vals1 r
  refine call_list_str (I.ok.hd hc) z t (fun h' tk acc' c' hk hS' hacc => ?_) hz
  refine ⟨.ref s.heap.objs.size, _, I.laid (t' := tk) hk (Nat.le_refl _) (show ObjOk X.prog X.w _ h' _ (.lst (z.cps.toList.map fun c => .str (tx [c]))) from ⟨?_, acc'.toList, c', ?_, by simpa using hS'⟩), rfl, q _ (I.hok.fresh (Nat.le_refl _))⟩
  · rw [List.length_map]
    exact hz
  · refine paired_get ?_ fun i a b h1 h2 => ?_
    · rw [List.length_map, Array.length_toList, Array.length_toList]
      exact hacc.1.symm
    · obtain ⟨c, u, hc', rfl⟩ := hacc.2 i b (by simpa using h2)
      rw [List.getElem?_map] at h1
      have e : z.cps.toList[i]? = some c := by simpa using hc'
      rw [e] at h1
      obtain rfl := Option.some.inj h1
      exact ⟨u, rfl⟩
/-- text[::-1] -/
def tRevS (te : TE) : TE := fun σ H Q => te σ H fun x H1 => ∃ z, x = .str z ∧ z.length ≤ sizeLine ∧ Q (.str (tx z.cps.toList.reverse)) H1
theorem pe_revS {X : Cx} {e : Expr} {te : TE} {k : Nat} {p1 p2 p3 pos : Pos} (he : PE X e te) : PE X (.Subscript e (.Slice none none (some (.UnaryOp .USub (.Constant (.int 1) k p1) p2)) p3) pos) (tRevS te) := by
  refine ⟨fun pins s σ H Q I h => ?_⟩
  refine Subscript_ (thn (he.run pins s σ H _ I h) fun v s1 ⟨x, H1, I1, r1, q1⟩ => ?_)
  obtain ⟨z, ex, hz, q⟩ := q1
  subst ex
  obtain ⟨t, rfl⟩ := r1
  have hst : PO X (some (.UnaryOp .USub (.Constant (.int 1) k p1) p2)) (tPart (tUn (rU fun i => .int (-i)) (tC (.int 1)))) := po_some (pe_un un_neg pe_int)
  refine wpAny_Slice (thn (po_none.run pins s1 σ H1 (fun o H2 => o = none ∧ H2 = H1) I1 ⟨rfl, rfl⟩) fun vl s2 ⟨l, H2, I2, pl, el, e2⟩ => ?_)
  subst el e2
  refine thn (po_none.run pins s2 σ H2 (fun o H3 => o = none ∧ H3 = H2) I2 ⟨rfl, rfl⟩) fun vu s3 ⟨u, H3, I3, pu, eu, e3⟩ => ?_
  subst eu e3
  refine thn (hst.run pins s3 σ H3 (fun o H4 => o = some (-1) ∧ H4 = H3) I3 ⟨1, rfl, -1, rfl, rfl, rfl⟩) fun vs s4 ⟨o, H4, I4, ps, eo, e4⟩ => ?_
  subst eo e4
  have I5 : L2.Inv X pins σ H4 { s4 with heap := s4.heap.push { cls := .type "slice", data := .fields #[vl, vu, vs] } } := I4.kept (t' := s4.toks) fun b ob q => Heap.get?_push_of_some _ q
  obtain ⟨l, el, e1⟩ := IsPart.raw pl
  obtain ⟨u, eu, e2⟩ := IsPart.raw pu
  obtain ⟨w, ew, e3⟩ := IsPart.raw ps
  show wpAny (model X.prog X.w) X.A (subscriptTail e (.Slice none none (some (.UnaryOp .USub (.Constant (.int 1) k p1) p2)) p3) (.str z t) (.ref s4.heap.objs.size)) (EP X pins σ Q) X.xe { s4 with heap := s4.heap.push { cls := .type "slice", data := .fields #[vl, vu, vs] } }
  refine tail_any (ops := [.str z t, .ref s4.heap.objs.size]) (typeIs_str _ _ _) F.slot_str_getitem.lookup ?_ (by with_unfolding_all rfl)
  refine wpAny_getItem_str_slice (l := l) (u := u) (st := w) ⟨_, Heap.get?_push_size _ rfl, rfl, by rw [el, eu, ew]⟩ (by rw [e3]; rfl) ?_
  obtain rfl : l = none := by
    cases l with
    | none => rfl
    | some a => cases e1
  obtain rfl : u = none := by
    cases u with
    | none => rfl
    | some a => cases e2
  obtain ⟨tk, rfl⟩ : ∃ tk, w = some (-1, tk) := by
    cases w with
    | none => cases e3
    | some a =>
      obtain ⟨i, tk⟩ := a
      obtain rfl : i = -1 := Option.some.inj e3
      exact ⟨tk, rfl⟩
  have ep : (slicePicked z none none (some (-1, tk))).filterMap (z.cps[·]?) = z.cps.toList.reverse := by
    show (sliceRange ((z.length : Int) - 1) (-1) (-1)).filterMap (z.cps[·]?) = _
    rw [PySem.W.krv_sliceRange, PySem.W.krv_range, List.filterMap_reverse]
    exact congrArg List.reverse (PySem.W.krv_all z.cps)
  unfold sliceMade
  rw [if_neg (by simp), ep]
  exact ⟨Nat.le_trans (by simp [Str.length]) hz, .str _, H4, I5.tok _, ⟨_, rfl⟩, q⟩
theorem pg_dput {X : Cx} {o i : Expr} {to ti : TE} {pos : Pos} (hu : X.A.units + 1 < cLine) (ho : PE X o to) (hi : PE X i ti)
    (ha : ∀ v, assign (.Subscript o i pos) X.env v = (do
      let ov ← holding [v] (eval o X.env)
      let iv ← holding [v, ov] (eval i X.env)
      standAt pos
      holding [v, ov, iv] (setItem ov iv v)
      release [v, ov, iv] []) := by intro _; rfl) : PG X (.Subscript o i pos) (gSub to ti rSetD) := pg_sub ho hi (set_dict hu) ha
end Mw
/-! W17: the law's draws -/
namespace Mw
open PySem PySem.Spec PyProof.Rows L2
structure Dx where
  d : Addr
  l : Addr
  c : Addr
structure DrC where
  ls : List Int
  cs : List Int
  rest : Int
  turn : Int
  mix : Int
structure DrOk (d : DrC) : Prop where
  rest : 0 ≤ d.rest
  mix0 : 0 ≤ d.mix
  mix1 : d.mix < 2147483629
  ls : ∀ i ∈ d.ls, 0 ≤ i
  cs : d.cs.length ≤ 63
  ll : d.ls.length ≤ 63
def drK (x : Dx) (d : DrC) : List (Key × V) := [(.inr "large", .ref x.l), (.inr "cells", .ref x.c), (.inr "rest", .int d.rest), (.inr "turn", .int d.turn), (.inr "mix", .int d.mix)]
theorem key_ne {a b : Str} (h : ¬ a = b) : ¬ (Sum.inr a : Key) = Sum.inr b := fun z => h (Sum.inr.inj z)
theorem dr_large {x : Dx} {d : DrC} : valV (drK x d) (.inr "large") = some (.ref x.l) := valV_pos rfl
theorem dr_cells {x : Dx} {d : DrC} : valV (drK x d) (.inr "cells") = some (.ref x.c) := by
  unfold drK
  rw [valV_neg (key_ne (by decide +kernel))]
  exact valV_pos rfl
theorem dr_rest {x : Dx} {d : DrC} : valV (drK x d) (.inr "rest") = some (.int d.rest) := by
  unfold drK
  rw [valV_neg (key_ne (by decide +kernel)), valV_neg (key_ne (by decide +kernel))]
  exact valV_pos rfl
theorem dr_turn {x : Dx} {d : DrC} : valV (drK x d) (.inr "turn") = some (.int d.turn) := by
  unfold drK
  rw [valV_neg (key_ne (by decide +kernel)), valV_neg (key_ne (by decide +kernel)), valV_neg (key_ne (by decide +kernel))]
  exact valV_pos rfl
theorem dr_mix {x : Dx} {d : DrC} : valV (drK x d) (.inr "mix") = some (.int d.mix) := by
  unfold drK
  rw [valV_neg (key_ne (by decide +kernel)), valV_neg (key_ne (by decide +kernel)), valV_neg (key_ne (by decide +kernel)), valV_neg (key_ne (by decide +kernel))]
  exact valV_pos rfl
theorem put_rest {x : Dx} {d : DrC} {i : Int} : putK (drK x d) (.inr "rest") (.int i) = drK x { d with rest := i } := by
  have n1 : ¬ (Sum.inr (PySem.Str.ofString "large") : Key) = Sum.inr (PySem.Str.ofString "rest") := key_ne (by decide +kernel)
  have n2 : ¬ (Sum.inr (PySem.Str.ofString "cells") : Key) = Sum.inr (PySem.Str.ofString "rest") := key_ne (by decide +kernel)
  have n3 : ¬ (Sum.inr (PySem.Str.ofString "turn") : Key) = Sum.inr (PySem.Str.ofString "rest") := key_ne (by decide +kernel)
  have n4 : ¬ (Sum.inr (PySem.Str.ofString "mix") : Key) = Sum.inr (PySem.Str.ofString "rest") := key_ne (by decide +kernel)
  simp [putK, drK, n1, n2, n3, n4]
theorem put_turn {x : Dx} {d : DrC} {i : Int} : putK (drK x d) (.inr "turn") (.int i) = drK x { d with turn := i } := by
  have n1 : ¬ (Sum.inr (PySem.Str.ofString "large") : Key) = Sum.inr (PySem.Str.ofString "turn") := key_ne (by decide +kernel)
  have n2 : ¬ (Sum.inr (PySem.Str.ofString "cells") : Key) = Sum.inr (PySem.Str.ofString "turn") := key_ne (by decide +kernel)
  have n3 : ¬ (Sum.inr (PySem.Str.ofString "rest") : Key) = Sum.inr (PySem.Str.ofString "turn") := key_ne (by decide +kernel)
  have n4 : ¬ (Sum.inr (PySem.Str.ofString "mix") : Key) = Sum.inr (PySem.Str.ofString "turn") := key_ne (by decide +kernel)
  simp [putK, drK, n1, n2, n3, n4]
theorem put_mix {x : Dx} {d : DrC} {i : Int} : putK (drK x d) (.inr "mix") (.int i) = drK x { d with mix := i } := by
  have n1 : ¬ (Sum.inr (PySem.Str.ofString "large") : Key) = Sum.inr (PySem.Str.ofString "mix") := key_ne (by decide +kernel)
  have n2 : ¬ (Sum.inr (PySem.Str.ofString "cells") : Key) = Sum.inr (PySem.Str.ofString "mix") := key_ne (by decide +kernel)
  have n3 : ¬ (Sum.inr (PySem.Str.ofString "rest") : Key) = Sum.inr (PySem.Str.ofString "mix") := key_ne (by decide +kernel)
  have n4 : ¬ (Sum.inr (PySem.Str.ofString "turn") : Key) = Sum.inr (PySem.Str.ofString "mix") := key_ne (by decide +kernel)
  simp [putK, drK, n1, n2, n3, n4]
/-- the draw stands at x beside what M tells of what may change -/
abbrev DrH (x : Dx) (M : Hp) (d : DrC) : Hp := upd (upd M x.d (.dK (drK x d))) x.l (.lst (d.ls.map V.int))
structure DrW (x : Dx) (B M H : Hp) (d : DrC) : Prop where
  ok : DrOk d
  md : M x.d = none
  ml : M x.l = none
  dl : x.d ≠ x.l
  c : B x.c = some (.lst (d.cs.map V.int))
  w : Wd B (DrH x M d) H
def Drw (x : Dx) (B M H : Hp) : Prop := ∃ d, DrW x B M H d
section
variable {x : Dx} {B M H H' : Hp} {d : DrC} {p : Addr} {o o' : HO}
theorem DrH_d (h : x.d ≠ x.l) : DrH x M d x.d = some (.dK (drK x d)) := by
  unfold DrH
  rw [upd_ne h, upd_same]
theorem DrH_l : DrH x M d x.l = some (.lst (d.ls.map V.int)) := upd_same
theorem DrH_ne (h1 : p ≠ x.d) (h2 : p ≠ x.l) : DrH x M d p = M p := by
  unfold DrH
  rw [upd_ne h2, upd_ne h1]
theorem DrW.hd (w : DrW x B M H d) : H x.d = some (.dK (drK x d)) := w.w.m _ _ (DrH_d w.dl)
theorem DrW.hl (w : DrW x B M H d) : H x.l = some (.lst (d.ls.map V.int)) := w.w.m _ _ upd_same
theorem DrW.mono (w : DrW x B M H d) (s : Same H H') : DrW x B M H' d := ⟨w.ok, w.md, w.ml, w.dl, w.c, w.w.mono s⟩
theorem DrW.set (w : DrW x B M H d) {d' : DrC} (ok : DrOk d') (hl : d'.ls = d.ls) (hc : d'.cs = d.cs) : DrW x B M (upd H x.d (.dK (drK x d'))) d' := by
  refine ⟨ok, w.md, w.ml, w.dl, by rw [hc]; exact w.c, ?_⟩
  have h := w.w.put (p := x.d) (o := .dK (drK x d)) (o' := .dK (drK x d')) (DrH_d w.dl)
  unfold DrH at h ⊢
  rw [upd_comm (Ne.symm w.dl), upd_upd] at h
  rw [hl]
  exact h
theorem DrW.setL (w : DrW x B M H d) {ls : List Int} (ok : DrOk { d with ls := ls }) : DrW x B M (upd H x.l (.lst (ls.map V.int))) { d with ls := ls } := by
  refine ⟨ok, w.md, w.ml, w.dl, w.c, ?_⟩
  have h := w.w.put (p := x.l) (o' := .lst (ls.map V.int)) upd_same
  unfold DrH at h ⊢
  rw [upd_upd] at h
  exact h
theorem Drw.mono (w : Drw x B M H) (s : Same H H') : Drw x B M H' := let ⟨d, w⟩ := w; ⟨d, w.mono s⟩
theorem Drw.b (w : Drw x B M H) : Same B H := let ⟨_, w⟩ := w; w.w.b
theorem Drw.m (w : Drw x B M H) : Same M H := fun a o h => by
  obtain ⟨d, w⟩ := w
  exact w.w.m _ _ (by rw [DrH_ne (ne_of_none h w.md) (ne_of_none h w.ml)]; exact h)
theorem Drw.wd (w : Drw x B M H) : Wd B M H := by
  obtain ⟨d, w⟩ := w
  exact w.w.less fun a o h => by rw [DrH_ne (ne_of_none h w.md) (ne_of_none h w.ml)]; exact h
theorem Drw.new (w : Drw x B M H) (h : H p = none) : Drw x (upd B p o) M (upd H p o) := by
  obtain ⟨d, w⟩ := w
  exact ⟨d, w.ok, w.md, w.ml, w.dl, Same.new (w.w.fb h) _ _ w.c, w.w.new h⟩
theorem Drw.newM (w : Drw x B M H) (h : H p = none) : Drw x B (upd M p o) (upd H p o) := by
  obtain ⟨d, w⟩ := w
  have pd : x.d ≠ p := ne_of_none w.hd h
  have pl : x.l ≠ p := ne_of_none w.hl h
  refine ⟨d, w.ok, by rw [upd_ne pd]; exact w.md, by rw [upd_ne pl]; exact w.ml, w.dl, w.c, ?_⟩
  have q := w.w.newM h (o := o)
  unfold DrH at q ⊢
  rw [upd_comm pl, upd_comm pd] at q
  exact q
theorem Drw.put (w : Drw x B M H) (h : M p = some o) : Drw x B (upd M p o') (upd H p o') := by
  obtain ⟨d, w⟩ := w
  have pd : p ≠ x.d := ne_of_none h w.md
  have pl : p ≠ x.l := ne_of_none h w.ml
  refine ⟨d, w.ok, by rw [upd_ne (Ne.symm pd)]; exact w.md, by rw [upd_ne (Ne.symm pl)]; exact w.ml, w.dl, w.c, ?_⟩
  have q := w.w.put (p := p) (o := o) (o' := o') (by rw [DrH_ne pd pl]; exact h)
  unfold DrH at q ⊢
  rw [upd_comm (Ne.symm pl), upd_comm (Ne.symm pd)] at q
  exact q
theorem Drw.frz (w : Drw x B (upd M p o) H) (h : M p = none) : Drw x (upd B p o) M H := by
  obtain ⟨d, w⟩ := w
  have pd : x.d ≠ p := fun z => by
    have := w.md
    rw [z, upd_same] at this
    cases this
  have pl : x.l ≠ p := fun z => by
    have := w.ml
    rw [z, upd_same] at this
    cases this
  have hB : B p = none := w.w.bn (o := o) (by rw [DrH_ne (Ne.symm pd) (Ne.symm pl), upd_same])
  refine ⟨d, w.ok, by have := w.md; rwa [upd_ne pd] at this, by have := w.ml; rwa [upd_ne pl] at this, w.dl, Same.new hB _ _ w.c, ?_⟩
  have q := w.w
  unfold DrH at q ⊢
  rw [upd_comm (Ne.symm pd), upd_comm (Ne.symm pl)] at q
  exact q.frz (by rw [upd_ne (Ne.symm pl), upd_ne (Ne.symm pd)]; exact h)
/-- the draw from without: what a session's methods leave -/
theorem Drw.of (w : DrW x B M H d) {B' M' : Hp} (sB : Same B B') (hm : M' x.d = none) (hl : M' x.l = none) (w' : Wd B' (DrH x M' d) H') : Drw x B' M' H' := ⟨d, w.ok, hm, hl, w.dl, sB _ _ w.c, w'⟩
end
section
variable {P : Program} {w : World} {K : PySem.W.Frag} {mg : Str → Option Value} {base : Heap}
def N__law_take : List Str := ["_law_draw", "_law_size", "_law_cell", "_law_found"]
theorem sc__law_take : FnScope N__law_take ["_law_draw", "_law_size"] (defScope (top 48)) := ⟨rfl, rfl, rfl, by decide +kernel, rfl, by decide +kernel, by decide +kernel⟩
def spTake : Sp := fun vs H Q _ => ∃ (x : Dx) (B M : Hp) (n : Int), vs = [.ref x.d, .int n] ∧ Drw x B M H ∧ 0 < n ∧ n < 1073741824 ∧ ∀ f H', 0 ≤ f → f < n → Drw x B M H' → Q (.int f) H'
theorem c__law_take (T : Tx P w K mg) : Cl P w K mg base CX0 1 "_law_take" spTake := by
  have S := sc__law_take
  refine mkCl0 T.d__law_take T.gf__law_take S (fun _ _ _ _ _ _ us hl => match us, hl with | [_, _], _ => rfl) (fun vs H Q E h => ?_) (fun cdv A outer s H vs Q E hr h => ?_)
  · obtain ⟨x, B, M, n, rfl, _⟩ := h
    rfl
  · obtain ⟨x, B, M, n, rfl, ⟨d, dw⟩, n0, n1, k⟩ := h
    have hu := hu_of hr
    refine ⟨_, (C8.pss_cut (ps_if (PW.pt (pw_and (pt_cmpR op_eq (pe_dget hu (pv 0) pe_str (fun _ _ => rfl)) pe_int (nomark _)) (pw_and1 (pt_cmpR (op_neD hr.units) (pe_dget hu (pv 0) pe_str (fun _ _ => rfl)) (pe_lst pa_nil) (nomark _))))) (pss_one (ps_dput hu (pv 0) pe_str (pe_bm PySem.F.plainAttrs_list PySem.F.slot_list_pop PySem.F.type_list_pop mt_popAt (pe_dget hu (pv 0) pe_str (fun _ _ => rfl)) (pa_cons pe_int pa_nil)) rfl)) (pss_one (ps_if (pt_cmpR op_eq (pe_dget hu (pv 0) pe_str (fun _ _ => rfl)) pe_int (nomark _)) (pss_cons (ps_dput hu (pv 0) pe_str (pe_op op_add (pe_dget hu (pv 0) pe_str (fun _ _ => rfl)) pe_int) rfl)
    (pss_cons (ps_for PassesOwn.never rfl (pi_list (pe_op op_cat (pe_lst (pa_cons (pe_dget hu (pv 0) pe_str (fun _ _ => rfl)) pa_nil)) (pe_dget hu (pv 0) pe_str (fun _ _ => rfl)))) (pg_name (i := 2) S.nd rfl (Or.inl rfl))
    (pss_one (ps_dput hu (pv 0) pe_str (pe_op op_mod (pe_callTy call_int1 rfl T.n_int bt_int (pa_cons (pe_op op_add (pe_op op_add (pe_op op_mul (pe_dget hu (pv 0) pe_str (fun _ _ => rfl)) pe_int) (pe_op op_mul (pv 2) pe_int)) pe_int) pa_nil)) pe_int) rfl)))
    (pss_one (ps_dput hu (pv 0) pe_str (pe_op op_mod (pe_callTy call_int1 rfl T.n_int bt_int (pa_cons (pe_op op_pow (pe_dget hu (pv 0) pe_str (fun _ _ => rfl)) pe_int) pa_nil)) pe_int) rfl)))) pss_nil)))
    (pss_cons (ps_asg (pe_callB call_divmod rfl T.n_divmod bt_divmod (pa_cons (pe_dget hu (pv 0) pe_str (fun _ _ => rfl)) (pa_cons (pv 1) pa_nil))) (pg_tup rfl (pgs_cons (pg_dput hu (pv 0) pe_str) (pgs_cons (pg_name (i := 3) S.nd rfl (Or.inl rfl)) pgs_nil))))
    (pss_one (ps_ret (pv 3))))), ?_⟩
    refine ⟨fun σ' H' => (∃ b2, σ' = [some (.ref x.d), some (.int n), b2, none]) ∧ Drw x B M H', ?_, ?_⟩
    · refine ⟨_, rfl, x.d, _, rfl, dr_rest ▸ DGet.k (k := .inr "rest") dw.hd, rfl, _, rfl, ?_⟩
      have s63 : ∀ {n : Nat}, n ≤ 63 → n < sizeLine := fun h => small_line (by omega)
      by_cases r0 : d.rest = 0
      · rw [decide_eq_true (by rw [r0])]
        refine iteT ⟨_, rfl, x.d, _, rfl, dr_large ▸ DGet.k (k := .inr "large") dw.hd, sz0, fun e he => ?_⟩
        have w1 := dw.mono (Same.new (o := .lst []) he)
        refine ⟨.list (d.ls.map PyData.int), .list [], .lst (SqL.of w1.hl) (dp_ints _), .lst (SqL.of upd_same) .nil, PySem.W.shaped_ints _, by decide, ?_⟩
        rw [eqv_ints_nil]
        refine ⟨_, rfl, ?_⟩
        cases hls : d.ls with
        | cons i ls =>
          refine iteT ⟨_, rfl, x.d, .ref x.l, rfl, dr_large ▸ DGet.k (k := .inr "large") w1.hd, .inl ⟨rfl, _, .inl (.inl w1.hl)⟩, ?_⟩
          have hok := w1.ok
          have lsm : ∀ j ∈ ls, 0 ≤ j := fun j hj => hok.ls j (by rw [hls]; exact List.mem_cons_of_mem _ hj)
          have i0 : 0 ≤ i := hok.ls i (by rw [hls]; exact List.mem_cons_self ..)
          have hl1 := w1.hl
          rw [hls] at hl1
          have l63 := hok.ll
          rw [hls, List.length_cons] at l63
          refine ⟨x.l, _, 0, 0, .int i, rfl, rfl, hl1, by decide, by decide, by simp [seqIndex?], rfl, ?_⟩
          have w2 := w1.setL (ls := ls) ⟨hok.rest, hok.mix0, hok.mix1, lsm, hok.cs, by dsimp only; omega⟩
          refine ⟨_, rfl, x.d, _, rfl, DPut.k (k := .inr "rest") w2.hd (show 5 < sizeLine by decide), ?_⟩
          rw [put_rest]
          exact ⟨⟨_, rfl⟩, _, w2.set (d' := ⟨ls, d.cs, i, d.turn, d.mix⟩) ⟨i0, hok.mix0, hok.mix1, lsm, hok.cs, by dsimp only; omega⟩ rfl rfl⟩
        | nil =>
          refine iteF ?_
          refine ⟨_, rfl, x.d, _, rfl, dr_rest ▸ DGet.k (k := .inr "rest") w1.hd, rfl, _, rfl, ?_⟩
          rw [decide_eq_true (by rw [r0])]
          refine iteT ?_
          have hok := w1.ok
          refine ⟨_, rfl, x.d, _, rfl, dr_turn ▸ DGet.k (k := .inr "turn") w1.hd, _, _, rfl, rfl, _, rfl, x.d, _, rfl, DPut.k (k := .inr "turn") w1.hd (show 5 < sizeLine by decide), ?_⟩
          rw [put_turn]
          have w2 := w1.set (d' := { d with turn := d.turn + 1 }) ⟨hok.rest, hok.mix0, hok.mix1, hok.ls, hok.cs, hok.ll⟩ rfl rfl
          refine ⟨_, rfl, x.d, _, rfl, dr_turn ▸ DGet.k (k := .inr "turn") w2.hd, sz1, fun tl htl => ?_⟩
          have w3 := w2.mono (Same.new (o := .lst [.int (d.turn + 1)]) htl)
          refine ⟨_, rfl, x.d, _, rfl, dr_cells ▸ DGet.k (k := .inr "cells") w3.hd, tl, x.c, _, _, rfl, rfl, upd_same, w3.w.b _ _ w3.c, Nat.le_of_lt (small_line (by simp; have := hok.cs; omega)), fun cl hcl => ?_⟩
          have w4 := w3.mono (Same.new (o := .lst ([.int (d.turn + 1)] ++ d.cs.map V.int)) hcl)
          have cd : cl ≠ x.d := Ne.symm (ne_of_none w3.hd hcl)
          refine ⟨cl, rfl, ⟨_, SqL.of upd_same⟩, ?_⟩
          refine for_it (walk_list (xs := [.int (d.turn + 1)] ++ d.cs.map V.int)) (fun i σ H' => (∃ b2, σ = [some (.ref x.d), some (.int n), b2, none]) ∧ H' cl = some (.lst ([.int (d.turn + 1)] ++ d.cs.map V.int)) ∧ ∃ d', DrW x B M H' d') ⟨⟨_, rfl⟩, upd_same, _, w4⟩ (fun _ _ H' _ pv => SqL.of pv.2.1) (fun i v σ1 H' H5 hi pv y => ?_) (fun σ1 H5 pv => ?_)
          · obtain ⟨⟨b2, rfl⟩, hcl5, d5, w5⟩ := pv
            obtain ⟨rfl, hv⟩ := y
            obtain ⟨c, rfl⟩ : ∃ c : Int, v = .int c := by
              have hm := List.mem_of_getElem? hv
              rcases List.mem_append.mp hm with hm | hm
              · exact ⟨_, List.mem_singleton.mp hm⟩
              · obtain ⟨c, _, rfl⟩ := List.mem_map.mp hm
                exact ⟨c, rfl⟩
            refine ⟨_, rfl, x.d, _, rfl, dr_mix ▸ DGet.k (k := .inr "mix") w5.hd, _, _, rfl, rfl, .inr ⟨by decide, by decide⟩, _, rfl, _, _, rfl, rfl, .inr ⟨by decide, by decide⟩, _, _, rfl, rfl, _, _, rfl, rfl, .inl ⟨_, rfl, _, _, rfl, rfl, (show (0 : Int) < 2147483629 by decide), ?_⟩⟩
            refine ⟨_, rfl, x.d, _, rfl, DPut.k (k := .inr "mix") w5.hd (show 5 < sizeLine by decide), ?_⟩
            rw [put_mix]
            have hok5 := w5.ok
            exact ⟨⟨_, rfl⟩, by rw [upd_ne cd]; exact hcl5, _, w5.set ⟨hok5.rest, Int.emod_nonneg _ (by decide), Int.emod_lt_of_pos _ (by decide), hok5.ls, hok5.cs, hok5.ll⟩ rfl rfl⟩
          · obtain ⟨⟨b2, rfl⟩, hcl5, d5, w5⟩ := pv
            have hok5 := w5.ok
            refine ⟨_, rfl, x.d, _, rfl, dr_mix ▸ DGet.k (k := .inr "mix") w5.hd, _, _, rfl, rfl, ⟨by decide, by decide, by have := hok5.mix0; have := hok5.mix1; omega⟩, .inl ⟨_, rfl, _, _, rfl, rfl, (show (0 : Int) < 2305843009213693951 by decide), ?_⟩⟩
            refine ⟨_, rfl, x.d, _, rfl, DPut.k (k := .inr "rest") w5.hd (show 5 < sizeLine by decide), ?_⟩
            rw [put_rest]
            exact ⟨⟨_, rfl⟩, _, w5.set ⟨Int.emod_nonneg _ (by decide), hok5.mix0, hok5.mix1, hok5.ls, hok5.cs, hok5.ll⟩ rfl rfl⟩
      · rw [decide_eq_false (fun z => r0 (V.int.inj z))]
        refine iteF (iteF ?_)
        refine ⟨_, rfl, x.d, _, rfl, dr_rest ▸ DGet.k (k := .inr "rest") dw.hd, rfl, _, rfl, ?_⟩
        rw [decide_eq_false (fun z => r0 (V.int.inj z))]
        exact iteF ⟨⟨_, rfl⟩, _, dw⟩
    · rintro σ' H1 ⟨⟨b2, rfl⟩, ⟨d1, w1⟩⟩
      refine ⟨_, rfl, x.d, _, rfl, dr_rest ▸ DGet.k (k := .inr "rest") w1.hd, _, rfl, _, _, rfl, ⟨n0, n1⟩, fun u hu1 => ?_⟩
      have w2 := w1.mono (Same.new (o := .tup [.int (d1.rest / n), .int (d1.rest % n)]) hu1)
      refine ⟨u, _, rfl, SqT.of upd_same, rfl, _, _, rfl, _, rfl, x.d, _, rfl, DPut.k (k := .inr "rest") w2.hd (show 5 < sizeLine by decide), ?_⟩
      rw [put_rest]
      have ok1 := w1.ok
      have w3 := w2.set (d' := { d1 with rest := d1.rest / n }) ⟨Int.ediv_nonneg ok1.rest (Int.le_of_lt n0), ok1.mix0, ok1.mix1, ok1.ls, ok1.cs, ok1.ll⟩ rfl rfl
      refine ⟨_, _, rfl, rfl, _, rfl, k _ _ (Int.emod_nonneg _ (by omega)) (Int.emod_lt_of_pos _ n0) ⟨_, w3⟩⟩
end
end Mw
/-! W18: what is drawn -/
namespace Mw
open PySem PySem.Spec PyProof.Rows L2
section
variable {x : Dx} {B M M' H H' : Hp} {p : Addr} {o : HO}
theorem Drw.less (w : Drw x B M' H) (e : Same M M') : Drw x B M H := by
  obtain ⟨d, w⟩ := w
  refine ⟨d, w.ok, e.free w.md, e.free w.ml, w.dl, w.c, w.w.less fun a u h => ?_⟩
  by_cases q1 : a = x.l
  · subst q1
    rw [DrH_l] at h ⊢
    exact h
  · by_cases q2 : a = x.d
    · subst q2
      rw [DrH_d w.dl] at h ⊢
      exact h
    · rw [DrH_ne q2 q1] at h ⊢
      exact e _ _ h
theorem Drw.fm (w : Drw x B M H) (h : H p = none) : M p = none := w.wd.fm h
theorem Drw.fb (w : Drw x B M H) (h : H p = none) : B p = none := w.wd.fb h
theorem Drw.sb (w : Drw x B M H) (h : H p = none) : Same B (upd B p o) := w.wd.sb h
/-- for a while more may change -/
theorem Drw.off (w : Drw x B (upd M p o) H) (h : M p = none) : Drw x B M H := w.less (Same.new h)
end
theorem eraseIdx_map' {α β : Type} {f : α → β} : ∀ {l : List α} {j : Nat}, (l.map f).eraseIdx j = (l.eraseIdx j).map f
  | [], _ => rfl
  | a :: l, 0 => rfl
  | a :: l, j + 1 => by
    show f a :: (l.map f).eraseIdx j = f a :: (l.eraseIdx j).map f
    rw [eraseIdx_map']
theorem perm_erase {α : Type} : ∀ {l : List α} {j : Nat} (h : j < l.length), ([l[j]] ++ l.eraseIdx j).Perm l
  | a :: l, 0, _ => List.Perm.refl _
  | a :: l, j + 1, h => by
    have hj : j < l.length := by simpa using h
    show (l[j] :: (a :: l.eraseIdx j)).Perm (a :: l)
    exact (List.Perm.swap a l[j] _).trans (List.Perm.cons a (perm_erase hj))
/-- one sign as a text -/
abbrev letV (c : Nat) : V := .str (tx [c])
section
variable {P : Program} {w : World} {K : PySem.W.Frag} {mg : Str → Option Value} {base : Heap}
def N__law_pick : List Str := ["_law_draw", "_law_some"]
theorem sc__law_pick : FnScope N__law_pick ["_law_draw", "_law_some"] (defScope (top 49)) := ⟨rfl, rfl, rfl, by decide +kernel, rfl, by decide +kernel, by decide +kernel⟩
def spPick : Sp := fun vs H Q _ => ∃ (x : Dx) (B M : Hp) (l : Addr) (xs : List V), vs = [.ref x.d, .ref l] ∧ Drw x B M H ∧ (B l = some (.lst xs) ∨ M l = some (.lst xs)) ∧ 0 < xs.length ∧ xs.length ≤ 1000 ∧ ∀ v H', v ∈ xs → Drw x B M H' → Q v H'
theorem c__law_pick (T : Tx P w K mg) : Cl P w K mg base CX0 2 "_law_pick" spPick := by
  have S := sc__law_pick
  have c__law_take := @c__law_take P w K mg base T
  refine mkCl0 T.d__law_pick T.gf__law_pick S (fun _ _ _ _ _ _ us hl => match us, hl with | [_, _], _ => rfl) (fun vs H Q E h => ?_) (fun cdv A outer s H vs Q E hr h => ?_)
  · obtain ⟨x, B, M, l, xs, rfl, _⟩ := h
    rfl
  · obtain ⟨x, B, M, l, xs, rfl, dw, hl, l0, l1, k⟩ := h
    refine ⟨_, (pss_one (ps_ret (pe_ix ix_list (pv 1) (pe_f c__law_take hr (by decide) rfl pass0 (pa_cons (pv 0) (pa_cons (pe_callB call_len_seq rfl T.n_len bt_len (pa_cons (pv 1) pa_nil)) pa_nil))) (fun _ _ => rfl)))), ?_⟩
    have at_ : ∀ {H' : Hp}, Drw x B M H' → H' l = some (.lst xs) := fun w => hl.elim (fun h => w.b _ _ h) (fun h => w.m _ _ h)
    refine ⟨_, rfl, _, rfl, _, rfl, l, _, rfl, .inl (SqL.of (at_ dw)), x, B, M, _, rfl, dw, by omega, by omega, fun f H1 f0 f1 w1 => ?_⟩
    obtain ⟨i, rfl⟩ := Int.eq_ofNat_of_zero_le f0
    have hi : i < xs.length := by omega
    exact ⟨l, xs, _, xs[i], rfl, rfl, SqL.of (at_ w1), atI_nat (by simp [hi]), k _ _ (List.getElem_mem hi) w1⟩
def N__law_letters : List Str := ["_law_draw", "_law_many", "_law_left", "_law_found", "_law_turn"]
theorem sc__law_letters : FnScope N__law_letters ["_law_draw", "_law_many"] (defScope (top 50)) := ⟨rfl, rfl, rfl, by decide +kernel, rfl, by decide +kernel, by decide +kernel⟩
def spLetters : Sp := fun vs H Q _ => ∃ (x : Dx) (B M : Hp) (n : Nat), vs = [.ref x.d, .int n] ∧ Drw x B M H ∧ n ≤ 20 ∧ ∀ B' l (cs : List Nat) H', Same B B' → Drw x B' M H' → B' l = some (.lst (cs.map letV)) → cs.length = n → cs.Nodup → (∀ c ∈ cs, 97 ≤ c ∧ c ≤ 122) → Q (.ref l) H'
theorem abc : (PySem.Str.ofString "abcdefghijklmnopqrstuvwxyz").cps.toList = [97, 98, 99, 100, 101, 102, 103, 104, 105, 106, 107, 108, 109, 110, 111, 112, 113, 114, 115, 116, 117, 118, 119, 120, 121, 122] := by decide +kernel
theorem c__law_letters (T : Tx P w K mg) : Cl P w K mg base CX0 2 "_law_letters" spLetters := by
  have S := sc__law_letters
  have c__law_take := @c__law_take P w K mg base T
  refine mkCl0 T.d__law_letters T.gf__law_letters S (fun _ _ _ _ _ _ us hl => match us, hl with | [_, _], _ => rfl) (fun vs H Q E h => ?_) (fun cdv A outer s H vs Q E hr h => ?_)
  · obtain ⟨x, B, M, n, rfl, _⟩ := h
    rfl
  · obtain ⟨x, B, M, n, rfl, dw, hn, k⟩ := h
    refine ⟨_, (pss_cons (ps_par (i := 2) (j := 3) (by rfl) S.nd rfl rfl (by decide) rfl rfl (pa_cons (pe_callTy (call_list_text rfl) rfl T.n_list bt_list (pa_cons pe_str pa_nil)) (pa_cons (pe_lst pa_nil) pa_nil)) (by rfl))
    (pss_cons (ps_for PassesOwn.never rfl (pi_range1 (by rfl) T.n_range (pa_cons (pv 1) pa_nil)) (pg_name (i := 4) S.nd rfl (Or.inl rfl))
    (pss_one (ps_expr (pe_bm PySem.F.plainAttrs_list PySem.F.slot_list_append PySem.F.type_list_append mt_append (pv 3) (pa_cons (pe_bm PySem.F.plainAttrs_list PySem.F.slot_list_pop PySem.F.type_list_pop mt_popAt (pv 2) (pa_cons (pe_f c__law_take hr (by decide) rfl pass0 (pa_cons (pv 0) (pa_cons (pe_callB call_len_seq rfl T.n_len bt_len (pa_cons (pv 2) pa_nil)) pa_nil))) pa_nil)) pa_nil)))))
    (pss_one (ps_ret (pv 3))))), ?_⟩
    refine ⟨_, rfl, by decide +kernel, fun ll hll => ?_⟩
    rw [abc]
    have w1 := dw.newM hll (o := .lst ([97, 98, 99, 100, 101, 102, 103, 104, 105, 106, 107, 108, 109, 110, 111, 112, 113, 114, 115, 116, 117, 118, 119, 120, 121, 122].map fun c => letV c))
    refine ⟨sz0, fun fl hfl => ?_⟩
    have w2 := w1.newM hfl (o := .lst [])
    have nlf : ll ≠ fl := ne_of_none upd_same hfl
    have Mll : M ll = none := dw.fm hll
    have Mfl : M fl = none := by
      have := w1.fm hfl
      rwa [upd_ne (Ne.symm nlf)] at this
    refine ⟨_, _, rfl, _, rfl, (n : Int), rfl, by omega, by omega, ?_⟩
    rw [show ((n : Int)).toNat = n by omega]
    refine for_it walk_range (fun i σ H' => (∃ b4, σ = [some (.ref x.d), some (.int n), some (.ref ll), some (.ref fl), b4]) ∧ ∃ (ys cs : List Nat), Drw x B (upd (upd M ll (.lst (ys.map letV))) fl (.lst (cs.map letV))) H' ∧ (cs ++ ys).Nodup ∧ (∀ c ∈ cs ++ ys, 97 ≤ c ∧ c ≤ 122) ∧ cs.length = i ∧ ys.length + i = 26)
      ⟨⟨_, rfl⟩, _, [], w2, by decide, by decide, rfl, rfl⟩ (fun _ _ _ _ _ => trivial) (fun i _ _ _ H3 hi pv y => ?_) (fun σ H3 pv => ?_)
    · obtain ⟨⟨b4, rfl⟩, ys, cs, w3, nd, az, lc, ly⟩ := pv
      obtain ⟨rfl, rfl⟩ := y
      have hll3 := w3.m _ _ (show (upd (upd M ll (.lst (ys.map letV))) fl (.lst (cs.map letV))) ll = some (.lst (ys.map letV)) by rw [upd_ne nlf, upd_same])
      refine ⟨_, rfl, .inl ⟨rfl, _, .inl (.inl (w3.m _ _ upd_same))⟩, _, rfl, .inl ⟨rfl, _, .inl (.inl hll3)⟩, ?_⟩
      refine ⟨_, rfl, _, rfl, ll, _, rfl, .inl (SqL.of hll3), x, B, _, _, rfl, w3, by rw [List.length_map]; omega, by rw [List.length_map]; omega, fun f H4 f0 f1 w4 => ?_⟩
      rw [List.length_map] at f1
      obtain ⟨j, rfl⟩ := Int.eq_ofNat_of_zero_le f0
      have hj : j < ys.length := by omega
      have hll4 := w4.m _ _ (show (upd (upd M ll (.lst (ys.map letV))) fl (.lst (cs.map letV))) ll = some (.lst (ys.map letV)) by rw [upd_ne nlf, upd_same])
      refine ⟨ll, _, j, j, letV ys[j], rfl, rfl, hll4, by omega, by omega, ?_, by rw [List.getElem?_map]; simp [hj], ?_⟩
      · rw [List.length_map]
        unfold seqIndex?
        simp
        omega
      · have w5 := w4.put (p := ll) (o := .lst (ys.map letV)) (o' := .lst ((ys.map letV).eraseIdx j)) (by rw [upd_ne nlf, upd_same])
        rw [upd_comm (Ne.symm nlf), upd_upd] at w5
        have w6 := w5.put (p := fl) (o := .lst (cs.map letV)) (o' := .lst (cs.map letV ++ [letV ys[j]])) upd_same
        rw [upd_upd] at w6
        refine ⟨fl, cs.map letV, _, rfl, rfl, w5.m _ _ upd_same, small_line (by rw [List.length_map]; omega), ⟨_, rfl⟩, ys.eraseIdx j, cs ++ [ys[j]], ?_, ?_, fun c hc => ?_, by rw [List.length_append, lc]; rfl, by rw [List.length_eraseIdx_of_lt hj]; omega⟩
        · rw [List.map_append, ← eraseIdx_map']
          exact w6
        · have hp : (cs ++ [ys[j]] ++ ys.eraseIdx j).Perm (cs ++ ys) := by
            rw [List.append_assoc]
            exact List.Perm.append_left _ (perm_erase hj)
          exact hp.symm.nodup nd
        · rcases List.mem_append.mp hc with hc | hc
          · rcases List.mem_append.mp hc with hc | hc
            · exact az c (List.mem_append_left _ hc)
            · rw [List.mem_singleton.mp hc]
              exact az _ (List.mem_append_right _ (List.getElem_mem hj))
          · exact az c (List.mem_append_right _ (List.mem_of_mem_eraseIdx hc))
    · obtain ⟨⟨b4, rfl⟩, ys, cs, w3, nd, az, lc, ly⟩ := pv
      have w4 : Drw x B (upd M fl (.lst (cs.map letV))) H3 := w3.less fun a o h => by
        by_cases q : a = fl
        · subst q
          rw [upd_same] at h ⊢
          exact h
        · rw [upd_ne q] at h ⊢
          rw [upd_ne (ne_of_none h Mll)]
          exact h
      exact ⟨_, rfl, k _ fl cs H3 (Same.new (w4.wd.bn upd_same)) (w4.frz Mfl) upd_same lc (List.nodup_append.mp nd).1 fun c hc => az c (List.mem_append_left _ hc)⟩
def N__law_string : List Str := ["_law_draw", "_law_letters_here", "_law_least", "_law_most", "_law_turn"]
theorem sc__law_string : FnScope N__law_string ["_law_draw", "_law_letters_here", "_law_least", "_law_most"] (defScope (top 51)) := ⟨rfl, rfl, rfl, by decide +kernel, rfl, by decide +kernel, by decide +kernel⟩
def spString : Sp := fun vs H Q _ => ∃ (x : Dx) (B M : Hp) (l : Addr) (cs : List Nat) (lo hi : Nat), vs = [.ref x.d, .ref l, .int lo, .int hi] ∧ Drw x B M H ∧ (B l = some (.lst (cs.map letV)) ∨ M l = some (.lst (cs.map letV))) ∧ 0 < cs.length ∧ cs.length ≤ 1000 ∧ lo ≤ hi ∧ hi ≤ 100 ∧
  ∀ (s : List Nat) H', Drw x B M H' → (∀ c ∈ s, c ∈ cs) → lo ≤ s.length → s.length ≤ hi → Q (.str (tx s)) H'
theorem joinL_lets : ∀ s : List Nat, TL.joinL [] (s.map fun c => [c]) = s
  | [] => rfl
  | [_] => rfl
  | c :: d :: r => by
    show c :: ([] ++ TL.joinL [] ((d :: r).map fun c => [c])) = _
    rw [joinL_lets (d :: r)]
    rfl
theorem sum_lets (s : List Nat) : ((s.map fun c => tx [c]).map (·.length)).sum = s.length := by
  induction s with
  | nil => rfl
  | cons c r ih =>
    rw [List.map_cons, List.map_cons, List.sum_cons, ih, tx_len, List.length_cons]
    simp
    omega
theorem join_lets (s : List Nat) : Txt.join (PySem.Str.ofString "") (s.map fun c => tx [c]) = tx s := by
  rw [tx_nil]
  have h := SX.join_S [] (s.map fun c => [c])
  rw [List.map_map] at h
  rw [joinL_lets] at h
  exact h
theorem c__law_string (T : Tx P w K mg) : Cl P w K mg base CX0 3 "_law_string" spString := by
  have S := sc__law_string
  have c__law_take := @c__law_take P w K mg base T
  have c__law_pick := @c__law_pick P w K mg base T
  refine mkCl0 T.d__law_string T.gf__law_string S (fun _ _ _ _ _ _ us hl => match us, hl with | [_, _, _, _], _ => rfl) (fun vs H Q E h => ?_) (fun cdv A outer s H vs Q E hr h => ?_)
  · obtain ⟨x, B, M, l, cs, lo, hi, rfl, _⟩ := h
    rfl
  · obtain ⟨x, B, M, l, cs, lo, hi, rfl, dw, hl, l0, l1, lh, h100, k⟩ := h
    refine ⟨_, (pss_one (ps_ret (pe_join pe_str (pe_lc (own := [("_law_turn", 4)]) (g := gName 4) (tt := tYes) (by rfl) S.nd (pi_range1 (by rfl) T.n_range (pa_cons (pe_op op_add (pv 2) (pe_f c__law_take hr (by decide) rfl pass0 (pa_cons (pv 0) (pa_cons (pe_op op_add (pe_op op_sub (pv 3) (pv 2)) pe_int) pa_nil)))) pa_nil)) (blkOk_by (own := [("_law_turn", 4)]) (N := N__law_string) (sc := defScope (top 51)) (by decide +kernel)) (fun _ _ _ _ _ => (pg_name (i := 4) S.nd rfl (Or.inl rfl))) (fun _ _ _ _ _ => pts_nil) (fun _ _ _ _ _ => (pe_f c__law_pick hr (by decide) rfl pass0 (pa_cons (pv 0) (pa_cons (pv 1) pa_nil)))))))), ?_⟩
    refine ⟨⟨_, rfl⟩, _, rfl, _, rfl, _, rfl, _, rfl, _, _, rfl, rfl, _, _, rfl, rfl, x, B, M, _, rfl, dw, by omega, by omega, fun f H1 f0 f1 w1 => ?_⟩
    obtain ⟨n, rfl⟩ := Int.eq_ofNat_of_zero_le f0
    refine ⟨_, _, rfl, rfl, _, rfl, by omega, by omega, fun D hD => ?_⟩
    rw [show ((lo : Int) + (n : Nat)).toNat = lo + n by omega]
    have MD : M D = none := w1.fm hD
    refine lc_it walk_range (fun i H' => ∃ s : List Nat, Drw x B (upd M D (.lst (s.map letV))) H' ∧ s.length = i ∧ ∀ c ∈ s, c ∈ cs) ⟨[], w1.newM hD, rfl, fun c hc => by cases hc⟩ (fun _ _ _ _ => trivial) (fun i _ _ H2 hi2 pv y => ?_) (fun H2 pv => ?_)
    · obtain ⟨s2, w2, sl, sc⟩ := pv
      obtain ⟨rfl, rfl⟩ := y
      refine ⟨rfl, _, rfl, _, rfl, x, B, _, l, _, rfl, w2, hl.imp id (fun h => by rw [upd_ne (ne_of_none h MD)]; exact h), by rw [List.length_map]; exact l0, by rw [List.length_map]; exact l1, fun v H3 hv w3 => ?_⟩
      obtain ⟨c, hc, rfl⟩ := List.mem_map.mp hv
      refine ⟨s2.map letV, w3.m _ _ upd_same, small_line (by rw [List.length_map]; omega), s2 ++ [c], ?_, by rw [List.length_append, sl]; rfl, fun c' hc' => ?_⟩
      · have w4 := w3.put (p := D) (o := .lst (s2.map letV)) (o' := .lst (s2.map letV ++ [letV c])) upd_same
        rw [upd_upd] at w4
        rw [List.map_append]
        exact w4
      · rcases List.mem_append.mp hc' with h | h
        · exact sc c' h
        · rw [List.mem_singleton.mp h]
          exact hc
    · obtain ⟨s2, w2, sl, sc⟩ := pv
      refine ⟨_, D, s2.map (fun c => tx [c]), rfl, rfl, .inl (SqL.of (by rw [List.map_map]; exact w2.m _ _ upd_same)), ?_, ?_⟩
      · rw [sum_lets, tx_nil, tx_len, List.length_map]
        simp
        omega
      · rw [join_lets]
        exact k s2 H2 (w2.off MD) sc (by omega) (by omega)
end
end Mw
/-! W19: prices drawn, the draw's beginning -/
namespace Mw
open PySem PySem.Spec PyProof.Rows L2
section
variable {P : Program} {w : World} {K : PySem.W.Frag} {mg : Str → Option Value} {base : Heap}
def N__law_prices : List Str := ["_law_draw", "_law_some", "_law_turn"]
theorem sc__law_prices : FnScope N__law_prices ["_law_draw"] (defScope (top 52)) := ⟨rfl, rfl, rfl, by decide +kernel, rfl, by decide +kernel, by decide +kernel⟩
/-- the tuple of prices at t -/
def PrAt (H : Hp) (t : Addr) (p : Sl) : Prop := H t = some (.tup [.int p.ex, .int p.mi, .int p.wr, swV p.sw])
def spPrices : Sp := fun vs H Q _ => ∃ (x : Dx) (B M : Hp), vs = [.ref x.d] ∧ Drw x B M H ∧ ∀ B' t p H', Same B B' → Drw x B' M H' → PrAt B' t p → p.Ok → Q (.ref t) H'
theorem pick1 {v : V} (h : v ∈ [V.int 1, .int 1, .int 1, .int 2, .int 2, .int 3]) : ∃ i : Int, v = .int i ∧ Pri i := by
  simp only [List.mem_cons, List.not_mem_nil, or_false] at h
  rcases h with rfl | rfl | rfl | rfl | rfl | rfl <;> exact ⟨_, rfl, by decide, by decide⟩
theorem pick2 {v : V} (h : v ∈ [V.non, .non, .int 1, .int 1, .int 2, .int 3]) : ∃ o : Option Int, v = swV o ∧ ∀ i, o = some i → Pri i := by
  simp only [List.mem_cons, List.not_mem_nil, or_false] at h
  rcases h with rfl | rfl | rfl | rfl | rfl | rfl
  · exact ⟨none, rfl, fun i z => by cases z⟩
  · exact ⟨none, rfl, fun i z => by cases z⟩
  · exact ⟨some 1, rfl, fun i z => by cases z; exact ⟨by decide, by decide⟩⟩
  · exact ⟨some 1, rfl, fun i z => by cases z; exact ⟨by decide, by decide⟩⟩
  · exact ⟨some 2, rfl, fun i z => by cases z; exact ⟨by decide, by decide⟩⟩
  · exact ⟨some 3, rfl, fun i z => by cases z; exact ⟨by decide, by decide⟩⟩
theorem c__law_prices (T : Tx P w K mg) : Cl P w K mg base CX0 3 "_law_prices" spPrices := by
  have S := sc__law_prices
  have c__law_pick := @c__law_pick P w K mg base T
  refine mkCl0 T.d__law_prices T.gf__law_prices S (fun _ _ _ _ _ _ us hl => match us, hl with | [_], _ => rfl) (fun vs H Q E h => ?_) (fun cdv A outer s H vs Q E hr h => ?_)
  · obtain ⟨x, B, M, rfl, _⟩ := h
    rfl
  · obtain ⟨x, B, M, rfl, dw, k⟩ := h
    refine ⟨_, (pss_cons (ps_setLc (i := 1) (own := [("_law_turn", 2)]) (g := gName 2) (tt := tYes) (by rfl) S.nd rfl rfl (sw_true rfl rfl rfl (by decide +kernel)) (pi_range1 (by rfl) T.n_range (pa_cons pe_int pa_nil)) (blkOk_by (own := [("_law_turn", 2)]) (N := N__law_prices) (sc := defScope (top 52)) (by decide +kernel)) (fun _ _ _ _ _ => (pg_name (i := 2) S.nd rfl (Or.inl rfl))) (fun _ _ _ _ _ => pts_nil) (fun _ _ _ _ _ => (pe_f c__law_pick hr (by decide) rfl pass0 (pa_cons (pv 0) (pa_cons (pe_lst (pa_cons pe_int (pa_cons pe_int (pa_cons pe_int (pa_cons pe_int (pa_cons pe_int (pa_cons pe_int pa_nil))))))) pa_nil)))))
    (pss_one (ps_ret (pe_op op_catA (pe_callTy call_tuple_of rfl T.n_tuple bt_tuple (pa_cons (pv 1) pa_nil)) (pe_tup (pa_cons (pe_f c__law_pick hr (by decide) rfl pass0 (pa_cons (pv 0) (pa_cons (pe_lst (pa_cons pe_non (pa_cons pe_non (pa_cons pe_int (pa_cons pe_int (pa_cons pe_int (pa_cons pe_int pa_nil))))))) pa_nil))) pa_nil)))))), ?_⟩
    refine ⟨3, rfl, by decide, by decide, fun D hD => ?_⟩
    have MD : M D = none := dw.fm hD
    refine lc_it (walk_range (lo := 0) (n := 3)) (fun i H' => ∃ s : List Int, Drw x B (upd M D (.lst (s.map V.int))) H' ∧ s.length = i ∧ ∀ c ∈ s, Pri c) ⟨[], dw.newM hD, rfl, fun c hc => by cases hc⟩ (fun _ _ _ _ => trivial) (fun i _ _ H2 hi2 pv y => ?_) (fun H2 pv => ?_)
    · obtain ⟨s2, w2, sl, sc⟩ := pv
      obtain ⟨rfl, rfl⟩ := y
      refine ⟨rfl, _, rfl, sz6, fun l hl => ?_⟩
      have w3 := w2.newM hl (o := .lst [.int 1, .int 1, .int 1, .int 2, .int 2, .int 3])
      have hMl : (upd M D (.lst (s2.map V.int))) l = none := w2.fm hl
      refine ⟨x, B, _, l, _, rfl, w3, .inr upd_same, by decide, by decide, fun v H3 hv w4 => ?_⟩
      obtain ⟨c, rfl, hc⟩ := pick1 hv
      have w5 := w4.off hMl
      refine ⟨s2.map V.int, w5.m _ _ upd_same, small_line (by rw [List.length_map]; omega), s2 ++ [c], ?_, by rw [List.length_append, sl]; rfl, fun c' hc' => ?_⟩
      · have w6 := w5.put (p := D) (o := .lst (s2.map V.int)) (o' := .lst (s2.map V.int ++ [V.int c])) upd_same
        rw [upd_upd] at w6
        rw [List.map_append]
        exact w6
      · rcases List.mem_append.mp hc' with h | h
        · exact sc c' h
        · rw [List.mem_singleton.mp h]
          exact hc
    · obtain ⟨s2, w2, sl, sc⟩ := pv
      match s2, sl, sc, w2 with
      | [a, b, c], _, sc, w2 =>
        refine ⟨_, rfl, D, _, rfl, .inl ⟨SqL.of (w2.m _ _ upd_same), fun t ht => ?_⟩⟩
        have w3 := (w2.new ht (o := .tup [.int a, .int b, .int c])).off MD
        have sB : Same B (upd B t (.tup [.int a, .int b, .int c])) := w2.sb ht
        refine ⟨_, rfl, sz6, fun l hl => ?_⟩
        have w4 := w3.newM hl (o := .lst [.non, .non, .int 1, .int 1, .int 2, .int 3])
        have hMl := w3.fm hl
        refine ⟨x, _, _, l, _, rfl, w4, .inr upd_same, by decide, by decide, fun v H3 hv w5 => ⟨sz1, fun t1 ht1 => ?_⟩⟩
        obtain ⟨o, rfl, ho⟩ := pick2 hv
        have w6 := w5.off hMl
        have w7 := w6.new ht1 (o := .tup [swV o])
        have s67 : Same _ _ := w6.sb ht1 (o := .tup [swV o])
        refine ⟨t, t1, _, _, rfl, rfl, SqT.of (w7.b _ _ (s67 _ _ upd_same)), SqT.of (w7.b _ _ upd_same), (show 3 + 1 ≤ sizeLine by decide), (fun z => nomatch z), (fun _ z => nomatch z), fun _ _ r hrr => ?_⟩
        have w8 := w7.new hrr (o := .tup ([.int a, .int b, .int c] ++ [swV o]))
        exact k _ r ⟨a, b, c, o⟩ _ ((sB.trans s67).trans (w7.sb hrr)) w8 upd_same ⟨sc a (by simp), sc b (by simp), sc c (by simp), ho⟩
theorem merge_app {kvs : List (Key × V)} : ∀ {acc : List (Key × V)}, ((acc ++ kvs).map Prod.fst).Nodup → mergeK acc kvs = acc ++ kvs := by
  induction kvs with
  | nil => intro acc _; rw [List.append_nil]; rfl
  | cons q r ih =>
    intro acc h
    obtain ⟨k, v⟩ := q
    show mergeK (putK acc k v) r = _
    have hk : (acc.any fun kv => decide (kv.1 = k)) = false := by
      rw [List.any_eq_false]
      intro a ha z
      rw [List.map_append, List.nodup_append] at h
      exact h.2.2 a.1 (List.mem_map_of_mem ha) k (by simp) (of_decide_eq_true z)
    unfold putK
    rw [hk, if_neg (by simp), ih (by rw [List.append_assoc]; exact h), List.append_assoc]
    rfl
theorem merge_dr {x : Dx} {d : DrC} : mergeK [] (drK x d) = drK x d := by
  have h := merge_app (acc := []) (kvs := drK x d) (by
    show ([.inr "large", .inr "cells", .inr "rest", .inr "turn", .inr "mix"] : List Key).Nodup
    decide +kernel)
  exact h
def N__law_begin : List Str := ["_law_script", "_law_large", "_law_cell"]
theorem sc__law_begin : FnScope N__law_begin ["_law_script"] (defScope (top 47)) := ⟨rfl, rfl, rfl, by decide +kernel, rfl, by decide +kernel, by decide +kernel⟩
def spBegin (K : PySem.W.Frag) : Sp := fun vs H Q _ => ∃ (B M : Hp) (s : Addr) (ns : List Int), vs = [.ref s] ∧ Wd B M H ∧ SqL K B s (ns.map V.int) ∧ ns.length ≤ 63 ∧ ∀ B' (x : Dx) H', Same B B' → Drw x B' M H' → Q (.ref x.d) H'
theorem c__law_begin (T : Tx P w K mg) : Cl P w K mg base CX0 1 "_law_begin" (spBegin K) := by
  have S := sc__law_begin
  refine mkCl0 T.d__law_begin T.gf__law_begin S (fun _ _ _ _ _ _ us hl => match us, hl with | [_], _ => rfl) (fun vs H Q E h => ?_) (fun cdv A outer s H vs Q E hr h => ?_)
  · obtain ⟨B, M, s, ns, rfl, _⟩ := h
    rfl
  · obtain ⟨B, M, sa, ns, rfl, wd, hs, l63, k⟩ := h
    have hu := hu_of hr
    refine ⟨_, (pss_cons (ps_setLc (i := 1) (own := [("_law_cell", 2)]) (g := gName 2) (by rfl) S.nd rfl rfl (sw_true rfl rfl rfl (by decide +kernel)) (pi_list (pv 0)) (blkOk_by (own := [("_law_cell", 2)]) (N := N__law_begin) (sc := defScope (top 47)) (by decide +kernel)) (fun _ _ _ _ _ => (pg_name (i := 2) S.nd rfl (Or.inl rfl))) (fun _ _ _ _ _ => (pts_one (pt_cmpR op_ge (pe_callB call_abs rfl T.n_abs bt_abs (pa_cons (pv 2) pa_nil)) (pe_op op_pow pe_int pe_int) (nomark _)))) (fun _ _ _ _ _ => (pe_callB call_abs rfl T.n_abs bt_abs (pa_cons (pv 2) pa_nil))))
    (pss_one (ps_ret (pe_disp (pps_cons pe_str (pv 1) (pps_cons pe_str (pe_callTy call_list_of rfl T.n_list bt_list (pa_cons (pv 0) pa_nil)) (pps_cons pe_str pe_int (pps_cons pe_str pe_int (pps_cons pe_str pe_int pps_nil))))) (by rfl) (by rfl) (fun z => by cases z) (by decide))))), ?_⟩
    have hsH := wd.b.seq hs
    refine ⟨_, rfl, sa, rfl, ⟨_, hsH⟩, fun L hL => ?_⟩
    have ML := wd.fm hL
    refine lc_it (walk_list (xs := ns.map V.int)) (fun i H' => ∃ ls : List Int, Wd B (upd M L (.lst (ls.map V.int))) H' ∧ ls.length ≤ i ∧ ∀ c ∈ ls, 0 ≤ c) ⟨[], wd.newM hL, Nat.le_refl _, fun c hc => by cases hc⟩ (fun _ H' _ pv => ?_) (fun i v _ H2 hi2 pv y => ?_) (fun H2 pv => ?_)
    · obtain ⟨ls, w2, _⟩ := pv
      exact w2.b.seq hs
    · obtain ⟨ls, w2, ll, lp⟩ := pv
      obtain ⟨rfl, hv⟩ := y
      obtain ⟨c, _, rfl⟩ := List.mem_map.mp (List.mem_of_getElem? hv)
      rw [List.length_map] at hi2
      refine ⟨rfl, _, rfl, _, rfl, _, _, rfl, rfl, ⟨by decide, by decide, by decide⟩, _, _, rfl, rfl, _, rfl, ite2 (fun _ => ?_) (fun _ => ⟨ls, w2, Nat.le_succ_of_le ll, lp⟩)⟩
      refine ⟨_, rfl, _, rfl, ls.map V.int, w2.m _ _ upd_same, small_line (by rw [List.length_map]; omega), ls ++ [if c < 0 then -c else c], ?_, by rw [List.length_append]; simp; omega, fun c' hc' => ?_⟩
      · have w6 := w2.put (p := L) (o := .lst (ls.map V.int)) (o' := .lst (ls.map V.int ++ [V.int (if c < 0 then -c else c)])) upd_same
        rw [upd_upd] at w6
        rw [List.map_append]
        exact w6
      · rcases List.mem_append.mp hc' with h | h
        · exact lp c' h
        · rw [List.mem_singleton.mp h]
          split <;> omega
    · obtain ⟨ls, w2, ll, lp⟩ := pv
      rw [List.length_map] at ll
      intro dd hdd
      have w3 := w2.newM hdd (o := .dK [])
      refine ⟨_, rfl, _, rfl, sa, ns.map V.int, rfl, .inl (w3.b.seq hs), fun cl hcl => ?_⟩
      have w4 := w3.new hcl (o := .lst (ns.map V.int))
      have dL : dd ≠ L := fun z => by
        have := w2.m _ _ upd_same
        rw [← z, hdd] at this
        cases this
      have Mdd : M dd = none := by
        have := w2.fm hdd
        rwa [upd_ne dL] at this
      refine ⟨w4.m _ _ upd_same, drK ⟨dd, L, cl⟩ ⟨ls, ns, 0, 0, 7⟩, rfl, (by decide : 5 ≤ 15), ?_⟩
      rw [merge_dr]
      have w5 := w4.put (p := dd) (o := .dK []) (o' := .dK (drK ⟨dd, L, cl⟩ ⟨ls, ns, 0, 0, 7⟩)) upd_same
      rw [upd_upd, upd_comm (Ne.symm dL)] at w5
      exact k _ ⟨dd, L, cl⟩ _ (w3.sb hcl) ⟨⟨ls, ns, 0, 0, 7⟩, ⟨(show (0 : Int) ≤ 0 by decide), (show (0 : Int) ≤ 7 by decide), (show (7 : Int) < 2147483629 by decide), lp, l63, by dsimp only; omega⟩, Mdd, ML, dL, upd_same, w5⟩
end
end Mw
/-! W20: sheets -/
namespace Mw
open PySem PySem.Spec PyProof.Rows L2
def AzLet (cs : List Nat) : Prop := ∀ c ∈ cs, 97 ≤ c ∧ c ≤ 122
/-- a case dict with these letters -/
def LetAt (H : Hp) (a : Addr) (cs : List Nat) : Prop := ∃ kvs la, H a = some (.dK kvs) ∧ valV kvs (.inr "letters") = some (.ref la) ∧ H la = some (.lst (cs.map letV))
theorem LetAt.mono {H H' : Hp} {a : Addr} {cs : List Nat} (h : LetAt H a cs) (s : Same H H') : LetAt H' a cs := by
  obtain ⟨kvs, la, h1, h2, h3⟩ := h
  exact ⟨kvs, la, s _ _ h1, h2, s _ _ h3⟩
theorem lets_flat (cs : List Nat) : (cs.map letV).all flatV = true := by
  induction cs with
  | nil => rfl
  | cons c r ih => rw [List.map_cons, List.all_cons, ih]; rfl
theorem inV_let (cs : List Nat) (c : Nat) : inV (letV c) (cs.map letV) = decide (c ∈ cs) := by
  induction cs with
  | nil => rfl
  | cons d r ih =>
    have e : inV (letV c) ((d :: r).map letV) = (eqV (letV d) (letV c) || inV (letV c) (r.map letV)) := rfl
    rw [e, ih, eqV_str, ← Bool.decide_or]
    exact decide_eq_decide.mpr (by rw [List.mem_cons]; simp [eq_comm])
theorem ex_last {α : Type} {l : List α} (h : l ≠ []) : ∃ r c, l = r ++ [c] := ⟨l.dropLast, l.getLast h, (List.dropLast_concat_getLast h).symm⟩
section
variable {P : Program} {w : World} {K : PySem.W.Frag} {mg : Str → Option Value} {base : Heap}
def N__law_other_letter : List Str := ["_law_case_here", "_law_letter"]
theorem sc__law_other_letter : FnScope N__law_other_letter ["_law_case_here"] (defScope (top 56)) := ⟨rfl, rfl, rfl, by decide +kernel, rfl, by decide +kernel, by decide +kernel⟩
def spOther : Sp := fun vs H Q _ => ∃ (a : Addr) (cs : List Nat), vs = [.ref a] ∧ LetAt H a cs ∧ cs.length ≤ 10 ∧ ∀ c H', 97 ≤ c → c ≤ 122 → Same H H' → Q (letV c) H'
theorem other_ex {cs : List Nat} (h : cs.length ≤ 10) : ([97, 98, 99, 100, 101, 102, 103, 104, 105, 106, 107, 108, 109, 110, 111, 112, 113, 114, 115, 116, 117, 118, 119, 120, 121, 122].filter fun c => decide (c ∉ cs)) ≠ [] := by
  intro e
  rw [List.filter_eq_nil_iff] at e
  have sub : ∀ c ∈ [97, 98, 99, 100, 101, 102, 103, 104, 105, 106, 107, 108, 109, 110, 111, 112, 113, 114, 115, 116, 117, 118, 119, 120, 121, 122], c ∈ cs := fun c hc => by
    have := e c hc
    simpa using this
  have nd : [97, 98, 99, 100, 101, 102, 103, 104, 105, 106, 107, 108, 109, 110, 111, 112, 113, 114, 115, 116, 117, 118, 119, 120, 121, 122].Nodup := by decide
  have := List.Nodup.length_le_of_subset nd sub
  simp at this
  omega
theorem c__law_other_letter (T : Tx P w K mg) : Cl P w K mg base CX0 1 "_law_other_letter" spOther := by
  have S := sc__law_other_letter
  refine mkCl0 T.d__law_other_letter T.gf__law_other_letter S (fun _ _ _ _ _ _ us hl => match us, hl with | [_], _ => rfl) (fun vs H Q E h => ?_) (fun cdv A outer s H vs Q E hr h => ?_)
  · obtain ⟨a, cs, rfl, _⟩ := h
    rfl
  · obtain ⟨a, cs, rfl, ⟨kvs, la, ha, hv, hla⟩, l10, k⟩ := h
    have hu := hu_of hr
    refine ⟨_, (pss_one (ps_ret (pe_ix ix_list (pe_lc (own := [("_law_letter", 1)]) (g := gName 1) (by rfl) S.nd (pi_str pe_str) (blkOk_by (own := [("_law_letter", 1)]) (N := N__law_other_letter) (sc := defScope (top 56)) (by decide +kernel)) (fun _ _ _ _ _ => (pg_name (i := 1) S.nd rfl (Or.inl rfl))) (fun _ _ _ _ _ => (pts_one (pt_cmpR (r := rIn K true) op_notIn_seq (pv 1) (pe_dget hu (pv 0) pe_str (fun _ _ => rfl)) rfl))) (fun _ _ _ _ _ => (pv 1))) (pe_un un_neg pe_int) (fun _ _ => rfl)))), ?_⟩
    refine ⟨_, rfl, fun D hD => ?_⟩
    have e26 : (PySem.Str.ofString "abcdefghijklmnopqrstuvwxyz").cps.toList = [97, 98, 99, 100, 101, 102, 103, 104, 105, 106, 107, 108, 109, 110, 111, 112, 113, 114, 115, 116, 117, 118, 119, 120, 121, 122] := abc
    refine lc_pre (walk_strL _) (fun i => (((PySem.Str.ofString "abcdefghijklmnopqrstuvwxyz").cps.toList.take i).filter fun c => decide (c ∉ cs)).map letV) rfl (fun i hi => small_line ?_) hD (fun _ _ => trivial) (fun i v H1 H2 Qe Qn hi s1 y h1 h2 => ?_) (fun H1 s1 h1 => ?_)
    · rw [List.length_map]
      refine Nat.le_trans (List.length_filter_le _ _) ?_
      rw [List.length_take, e26]
      simp
      omega
    · obtain ⟨rfl, c, hc, rfl⟩ := y
      refine ⟨rfl, _, rfl, _, rfl, a, _, rfl, hv ▸ DGet.k (k := .inr "letters") (s1 _ _ ha), la, _, rfl, .inl (SqL.of (s1 _ _ hla)), rfl, lets_flat cs, _, rfl, ?_⟩
      dsimp only
      rw [if_pos rfl, show (V.str ⟨#[c]⟩ : V) = letV c from rfl, inV_let]
      have et : ((PySem.Str.ofString "abcdefghijklmnopqrstuvwxyz").cps.toList.take (i + 1)) = ((PySem.Str.ofString "abcdefghijklmnopqrstuvwxyz").cps.toList.take i) ++ [c] := take_snoc hc
      by_cases q : c ∈ cs
      · rw [decide_eq_true q]
        refine iteF (h2 _ ?_ (Same.refl _))
        rw [et, List.filter_append, List.map_append]
        simp [q]
      · rw [decide_eq_false q]
        refine iteT ⟨_, rfl, h1 _ _ ?_ (Same.refl _)⟩
        rw [et, List.filter_append, List.map_append]
        simp [q]
    · rw [e26, List.take_length] at h1
      obtain ⟨l, c, e⟩ := ex_last (other_ex l10)
      rw [e, List.map_append] at h1
      have hc := (List.mem_filter.mp (show c ∈ List.filter (fun c => decide (c ∉ cs)) [97, 98, 99, 100, 101, 102, 103, 104, 105, 106, 107, 108, 109, 110, 111, 112, 113, 114, 115, 116, 117, 118, 119, 120, 121, 122] by rw [e]; simp)).1
      have hc2 : 97 ≤ c ∧ c ≤ 122 := by
        simp only [List.mem_cons, List.not_mem_nil, or_false] at hc
        omega
      exact ⟨1, rfl, D, _, -1, _, rfl, rfl, SqL.of h1, atI_last _ _, k c H1 hc2.1 hc2.2 s1⟩
def N__law_text : List Str := ["_law_draw", "_law_case_here", "_law_most"]
theorem sc__law_text : FnScope N__law_text ["_law_draw", "_law_case_here", "_law_most"] (defScope (top 57)) := ⟨rfl, rfl, rfl, by decide +kernel, rfl, by decide +kernel, by decide +kernel⟩
def spText : Sp := fun vs H Q _ => ∃ (x : Dx) (B M : Hp) (a : Addr) (cs : List Nat) (m : Nat), vs = [.ref x.d, .ref a, .int m] ∧ Drw x B M H ∧ LetAt B a cs ∧ AzLet cs ∧ cs.length ≤ 10 ∧ m ≤ 100 ∧
  ∀ (s : List Nat) H', Drw x B M H' → AzLet s → s.length ≤ m → Q (.str (tx s)) H'
theorem rep3 {α : Type} (l : List α) : (List.replicate 3 l).flatten = l ++ (l ++ l) := by simp [List.replicate]
theorem c__law_text (T : Tx P w K mg) : Cl P w K mg base CX0 4 "_law_text" spText := by
  have S := sc__law_text
  have c__law_string := @c__law_string P w K mg base T
  have c__law_other_letter := @c__law_other_letter P w K mg base T
  refine mkCl0 T.d__law_text T.gf__law_text S (fun _ _ _ _ _ _ us hl => match us, hl with | [_, _, _], _ => rfl) (fun vs H Q E h => ?_) (fun cdv A outer s H vs Q E hr h => ?_)
  · obtain ⟨x, B, M, a, cs, m, rfl, _⟩ := h
    rfl
  · obtain ⟨x, B, M, a, cs, m, rfl, dw, la, az, l10, hm, k⟩ := h
    have hu := hu_of hr
    refine ⟨_, (pss_one (ps_ret (pe_f c__law_string hr (by decide) rfl pass0 (pa_cons (pv 0) (pa_cons (pe_op op_cat (pe_op op_rep (pe_dget hu (pv 1) pe_str (fun _ _ => rfl)) pe_int) (pe_lst (pa_cons (pe_f c__law_other_letter hr (by decide) rfl pass0 (pa_cons (pv 1) pa_nil)) pa_nil))) (pa_cons pe_int (pa_cons (pv 2) pa_nil))))))), ?_⟩
    obtain ⟨kvs, lt, ha, hv, hl⟩ := la
    refine ⟨_, rfl, _, rfl, a, _, rfl, hv ▸ DGet.k (k := .inr "letters") (dw.b _ _ ha), lt, 3, _, rfl, rfl, dw.b _ _ hl, by decide, by decide, ?_, fun p hp => ?_⟩
    · have : cs.length * 3 ≤ 100000 := by omega
      rw [List.length_map]
      exact Nat.le_of_lt (small_line this)
    have w1 := dw.newM hp (o := .lst (List.replicate (3 : Int).toNat (cs.map letV)).flatten)
    refine ⟨_, rfl, a, cs, rfl, ⟨kvs, lt, w1.b _ _ ha, hv, w1.b _ _ hl⟩, l10, fun c H1 c1 c2 s1 => ⟨sz1, fun q hq => ?_⟩⟩
    have w2 := w1.mono s1
    have w3 := w2.newM hq (o := .lst [letV c])
    have Mp : M p = none := dw.fm hp
    have pq : p ≠ q := ne_of_none (w2.m _ _ upd_same) hq
    have Mq : M q = none := by
      have := w2.fm hq
      rwa [upd_ne (Ne.symm pq)] at this
    refine ⟨p, q, _, _, rfl, rfl, w3.m _ _ (by rw [upd_ne pq]; exact upd_same), w3.m _ _ upd_same, ?_, fun r hrr => ?_⟩
    · rw [show (3 : Int).toNat = 3 from rfl, rep3]
      refine Nat.le_of_lt (small_line ?_)
      simp
      omega
    have w4 := ((w3.off (by rw [upd_ne (Ne.symm pq)]; exact Mq)).off Mp).newM hrr (o := .lst ((List.replicate (3 : Int).toNat (cs.map letV)).flatten ++ [letV c]))
    have Mr : M r = none := ((w3.off (by rw [upd_ne (Ne.symm pq)]; exact Mq)).off Mp).fm hrr
    have el : (List.replicate (3 : Int).toNat (cs.map letV)).flatten ++ [letV c] = (cs ++ (cs ++ cs) ++ [c]).map letV := by
      rw [show (3 : Int).toNat = 3 from rfl, rep3]
      simp
    rw [el] at w4 ⊢
    refine ⟨_, rfl, x, B, _, r, cs ++ (cs ++ cs) ++ [c], 0, m, rfl, w4, .inr upd_same, by simp; omega, by simp; omega, Nat.zero_le _, hm, fun s H2 w5 hs _ hlen => ?_⟩
    refine k s H2 (w5.off Mr) (fun d hd => ?_) hlen
    have := hs d hd
    simp only [List.mem_append, List.mem_singleton] at this
    rcases this with (h | h | h) | h
    · exact az d h
    · exact az d h
    · exact az d h
    · subst h
      exact ⟨c1, c2⟩
end
end Mw
/-! W21: cases and sheets -/
namespace Mw
open PySem PySem.Spec PyProof.Rows L2
def caK (la ta ea : Addr) : List (Key × V) := [(.inr "letters", .ref la), (.inr "prices", .ref ta), (.inr "entries", .ref ea)]
def shK (la ta ea : Addr) (x : Str) : List (Key × V) := [(.inr "letters", .ref la), (.inr "prices", .ref ta), (.inr "entries", .ref ea), (.inr "text", .str x)]
section
variable {la ta ea : Addr} {x : Str}
theorem ca_letters : valV (caK la ta ea) (.inr "letters") = some (.ref la) := valV_pos rfl
theorem ca_prices : valV (caK la ta ea) (.inr "prices") = some (.ref ta) := by
  unfold caK
  rw [valV_neg (key_ne (by decide +kernel))]
  exact valV_pos rfl
theorem ca_entries : valV (caK la ta ea) (.inr "entries") = some (.ref ea) := by
  unfold caK
  rw [valV_neg (key_ne (by decide +kernel)), valV_neg (key_ne (by decide +kernel))]
  exact valV_pos rfl
theorem sh_letters : valV (shK la ta ea x) (.inr "letters") = some (.ref la) := valV_pos rfl
theorem sh_prices : valV (shK la ta ea x) (.inr "prices") = some (.ref ta) := by
  unfold shK
  rw [valV_neg (key_ne (by decide +kernel))]
  exact valV_pos rfl
theorem sh_entries : valV (shK la ta ea x) (.inr "entries") = some (.ref ea) := by
  unfold shK
  rw [valV_neg (key_ne (by decide +kernel)), valV_neg (key_ne (by decide +kernel))]
  exact valV_pos rfl
theorem sh_text : valV (shK la ta ea x) (.inr "text") = some (.str x) := by
  unfold shK
  rw [valV_neg (key_ne (by decide +kernel)), valV_neg (key_ne (by decide +kernel)), valV_neg (key_ne (by decide +kernel))]
  exact valV_pos rfl
theorem ca_text : putK (caK la ta ea) (.inr "text") (.str x) = shK la ta ea x := by
  have n1 : ¬ (Sum.inr (PySem.Str.ofString "letters") : Key) = Sum.inr (PySem.Str.ofString "text") := key_ne (by decide +kernel)
  have n2 : ¬ (Sum.inr (PySem.Str.ofString "prices") : Key) = Sum.inr (PySem.Str.ofString "text") := key_ne (by decide +kernel)
  have n3 : ¬ (Sum.inr (PySem.Str.ofString "entries") : Key) = Sum.inr (PySem.Str.ofString "text") := key_ne (by decide +kernel)
  simp [putK, caK, shK, n1, n2, n3]
theorem sh_text_put {y : Str} : putK (shK la ta ea x) (.inr "text") (.str y) = shK la ta ea y := by
  have n1 : ¬ (Sum.inr (PySem.Str.ofString "letters") : Key) = Sum.inr (PySem.Str.ofString "text") := key_ne (by decide +kernel)
  have n2 : ¬ (Sum.inr (PySem.Str.ofString "prices") : Key) = Sum.inr (PySem.Str.ofString "text") := key_ne (by decide +kernel)
  have n3 : ¬ (Sum.inr (PySem.Str.ofString "entries") : Key) = Sum.inr (PySem.Str.ofString "text") := key_ne (by decide +kernel)
  simp [putK, shK, n1, n2, n3]
theorem sh_entries_put {eb : Addr} : putK (shK la ta ea x) (.inr "entries") (.ref eb) = shK la ta eb x := by
  have n1 : ¬ (Sum.inr (PySem.Str.ofString "letters") : Key) = Sum.inr (PySem.Str.ofString "entries") := key_ne (by decide +kernel)
  have n2 : ¬ (Sum.inr (PySem.Str.ofString "prices") : Key) = Sum.inr (PySem.Str.ofString "entries") := key_ne (by decide +kernel)
  have n3 : ¬ (Sum.inr (PySem.Str.ofString "text") : Key) = Sum.inr (PySem.Str.ofString "entries") := key_ne (by decide +kernel)
  simp [putK, shK, n1, n2, n3]
theorem sh_prices_put {tb : Addr} : putK (shK la ta ea x) (.inr "prices") (.ref tb) = shK la tb ea x := by
  have n1 : ¬ (Sum.inr (PySem.Str.ofString "letters") : Key) = Sum.inr (PySem.Str.ofString "prices") := key_ne (by decide +kernel)
  have n2 : ¬ (Sum.inr (PySem.Str.ofString "entries") : Key) = Sum.inr (PySem.Str.ofString "prices") := key_ne (by decide +kernel)
  have n3 : ¬ (Sum.inr (PySem.Str.ofString "text") : Key) = Sum.inr (PySem.Str.ofString "prices") := key_ne (by decide +kernel)
  simp [putK, shK, n1, n2, n3]
theorem merge_ca : mergeK [] (caK la ta ea) = caK la ta ea := by
  have h := merge_app (acc := []) (kvs := caK la ta ea) (by
    show ([.inr "letters", .inr "prices", .inr "entries"] : List Key).Nodup
    decide +kernel)
  exact h
end
/-- the letters of a case, in order -/
structure LtOk (cs : List Nat) : Prop where
  az : AzLet cs
  l0 : 0 < cs.length
  l10 : cs.length ≤ 10
/-- at a: a sheet of these letters that holds s -/
structure ShAt (H : Hp) (a : Addr) (cs : List Nat) (s : Sh) : Prop where
  lt : LtOk cs
  ex : ∃ la ta ea refs, H a = some (.dK (shK la ta ea (tx s.x))) ∧ H la = some (.lst (cs.map letV)) ∧ PrAt H ta s.p ∧ H ea = some (.lst refs) ∧ Paired (EntAt H) refs s.es
theorem ShAt.mono {H H' : Hp} {a : Addr} {cs : List Nat} {s : Sh} (h : ShAt H a cs s) (e : Same H H') : ShAt H' a cs s := by
  obtain ⟨lt, la, ta, ea, refs, h1, h2, h3, h4, h5⟩ := h
  exact ⟨lt, la, ta, ea, refs, e _ _ h1, e _ _ h2, e _ _ h3, e _ _ h4, ents_mono h5 e⟩
theorem ShAt.let {H : Hp} {a : Addr} {cs : List Nat} {s : Sh} (h : ShAt H a cs s) : LetAt H a cs := by
  obtain ⟨lt, la, ta, ea, refs, h1, h2, h3, h4, h5⟩ := h
  exact ⟨_, la, h1, sh_letters, h2⟩
section
variable {P : Program} {w : World} {K : PySem.W.Frag} {mg : Str → Option Value} {base : Heap}
def N__law_case : List Str := ["_law_draw", "_law_many", "_law_most", "_law_case_here", "_law_turn", "_law_word", "_law_entry"]
theorem sc__law_case : FnScope N__law_case ["_law_draw", "_law_many", "_law_most"] (defScope (top 53)) := ⟨rfl, rfl, rfl, by decide +kernel, rfl, by decide +kernel, by decide +kernel⟩
def spCase : Sp := fun vs H Q _ => ∃ (x : Dx) (B M : Hp), vs = [.ref x.d, .int 4, .int 4] ∧ Drw x B M H ∧ ∀ B' a la ta ea refs cs p es H', Same B B' → M a = none → Drw x B' (upd M a (.dK (caK la ta ea))) H' → LtOk cs → B' la = some (.lst (cs.map letV)) → PrAt B' ta p → p.Ok →
  B' ea = some (.lst refs) → Paired (EntAt B') refs es → EsOk es → Q (.ref a) H'
theorem c__law_case (T : Tx P w K mg) : Cl P w K mg base CX0 4 "_law_case" spCase := by
  have S := sc__law_case
  have c__law_take := @c__law_take P w K mg base T
  have c__law_pick := @c__law_pick P w K mg base T
  have c__law_letters := @c__law_letters P w K mg base T
  have c__law_string := @c__law_string P w K mg base T
  have c__law_prices := @c__law_prices P w K mg base T
  refine mkCl0 T.d__law_case T.gf__law_case S (fun _ _ _ _ _ _ us hl => match us, hl with | [_, _, _], _ => rfl) (fun vs H Q E h => ?_) (fun cdv A outer s H vs Q E hr h => ?_)
  · obtain ⟨x, B, M, rfl, _⟩ := h
    rfl
  · obtain ⟨x, B, M, rfl, dw, k⟩ := h
    have hu := hu_of hr
    refine ⟨_, (pss_cons (ps_set (i := 3) S.nd rfl (Or.inl rfl) (pe_disp (pps_cons pe_str (pe_f c__law_letters hr (by decide) rfl pass0 (pa_cons (pv 0) (pa_cons (pe_op op_add pe_int (pe_f c__law_take hr (by decide) rfl pass0 (pa_cons (pv 0) (pa_cons pe_int pa_nil)))) pa_nil))) (pps_cons pe_str (pe_f c__law_prices hr (by decide) rfl pass0 (pa_cons (pv 0) pa_nil)) (pps_cons pe_str (pe_lst pa_nil) pps_nil))) (by rfl) (by rfl) (fun z => by cases z) (by decide)))
    (pss_cons (ps_for PassesOwn.never rfl (pi_range1 (by rfl) T.n_range (pa_cons (pe_f c__law_take hr (by decide) rfl pass0 (pa_cons (pv 0) (pa_cons (pe_op op_add (pv 1) pe_int) pa_nil))) pa_nil)) (pg_name (i := 4) S.nd rfl (Or.inl rfl))
    (pss_cons (ps_set (i := 5) S.nd rfl (Or.inl rfl) (pe_f c__law_string hr (by decide) rfl pass0 (pa_cons (pv 0) (pa_cons (pe_dget hu (pv 3) pe_str (fun _ _ => rfl)) (pa_cons pe_int (pa_cons (pv 2) pa_nil))))))
    (pss_one (ps_if (pt_cmpR op_notIn_seq (pv 5) (pe_lc (own := [("_law_entry", 6)]) (g := gName 6) (tt := tYes) (by rfl) S.nd (pi_list (pe_dget hu (pv 3) pe_str (fun _ _ => rfl))) (blkOk_by (own := [("_law_entry", 6)]) (N := N__law_case) (sc := defScope (top 53)) (by decide +kernel)) (fun _ _ _ _ _ => (pg_name (i := 6) S.nd rfl (Or.inl rfl))) (fun _ _ _ _ _ => pts_nil) (fun _ _ _ _ _ => (pe_ix (r := rIxT K) ix_tup (pv 6) pe_int (fun _ _ => rfl)))) rfl) (pss_one (ps_expr (pe_bm PySem.F.plainAttrs_list PySem.F.slot_list_append PySem.F.type_list_append mt_append (pe_dget hu (pv 3) pe_str (fun _ _ => rfl)) (pa_cons (pe_tup (pa_cons (pv 5) (pa_cons (pe_f c__law_pick hr (by decide) rfl pass0 (pa_cons (pv 0) (pa_cons (pe_lst (pa_cons pe_int (pa_cons pe_int (pa_cons pe_int (pa_cons pe_int (pa_cons pe_int (pa_cons pe_int (pa_cons pe_int (pa_cons (pe_f c__law_take hr (by decide) rfl pass0 (pa_cons (pv 0) (pa_cons pe_int pa_nil))) pa_nil))))))))) pa_nil))) pa_nil))) pa_nil)))) pss_nil))))
    (pss_one (ps_ret (pv 3))))), ?_⟩
    intro a ha
    have Ma : M a = none := dw.fm ha
    have w1 := dw.newM ha (o := .dK [])
    refine ⟨_, rfl, _, rfl, x, B, _, 2, rfl, w1, by decide, by decide, fun f H1 f0 f1 w2 => ?_⟩
    obtain ⟨n, rfl⟩ := Int.eq_ofNat_of_zero_le f0
    refine ⟨_, _, rfl, rfl, x, B, _, 2 + n, rfl, w2, by omega, fun B1 la cs H2 s1 w3 hla lcs nd az => ?_⟩
    refine ⟨_, rfl, x, B1, _, rfl, w3, fun B2 ta p H3 s2 w4 hta pok => ⟨sz0, fun ea hea => ?_⟩⟩
    have w5 := w4.newM hea (o := .lst [])
    have ae : a ≠ ea := ne_of_none (w4.m _ _ upd_same) hea
    have Me : M ea = none := by
      have := w4.fm hea
      rwa [upd_ne (Ne.symm ae)] at this
    refine ⟨w5.m _ _ (by rw [upd_ne ae]; exact upd_same), caK la ta ea, rfl, (by decide : 3 ≤ 15), ?_⟩
    rw [merge_ca]
    have w6 := w5.put (p := a) (o := .dK []) (o' := .dK (caK la ta ea)) (by rw [upd_ne ae]; exact upd_same)
    rw [upd_comm (Ne.symm ae), upd_upd] at w6
    have lok : LtOk cs := ⟨az, by omega, by omega⟩
    have hla2 := s2 _ _ hla
    refine ⟨_, rfl, _, rfl, _, _, rfl, rfl, x, B2, _, 5, rfl, w6, by decide, by decide, fun f H4 f0 f1 w7 => ?_⟩
    obtain ⟨m, rfl⟩ := Int.eq_ofNat_of_zero_le f0
    refine ⟨_, rfl, by omega, by omega, ?_⟩
    rw [show ((m : Int)).toNat = m by omega]
    refine for_it walk_range (fun i σ H' => (∃ b4 b5, σ = [some (.ref x.d), some (.int 4), some (.int 4), some (.ref a), b4, b5, none]) ∧ ∃ (B' : Hp) (refs : List V) (es : List Ent), Same B2 B' ∧ Drw x B' (upd (upd M a (.dK (caK la ta ea))) ea (.lst refs)) H' ∧ Paired (EntAt B') refs es ∧ es.length ≤ i ∧ (∀ e ∈ es, EntOk e) ∧ (es.map Prod.fst).Nodup)
      ⟨⟨_, _, rfl⟩, B2, [], [], Same.refl _, w7, .nil, Nat.le_refl _, (fun _ h => nomatch h), List.nodup_nil⟩ (fun _ _ _ _ _ => trivial) (fun i _ _ _ H5 hi pv y => ?_) (fun σ H5 pv => ?_)
    · obtain ⟨⟨b4, b5, rfl⟩, B3, refs, es, s3, w8, pe, le, eo, nd'⟩ := pv
      obtain ⟨rfl, rfl⟩ := y
      have hl5 : es.length ≤ 4 := by omega
      have had := w8.m _ _ (show (upd (upd M a (.dK (caK la ta ea))) ea (.lst refs)) a = some (.dK (caK la ta ea)) by rw [upd_ne ae, upd_same])
      refine ⟨_, rfl, _, rfl, a, _, rfl, ca_letters ▸ DGet.k (k := .inr "letters") had, _, rfl, x, B3, _, la, cs, 1, 4, rfl, w8, .inl (s3 _ _ hla2), lok.l0, by have := lok.l10; omega, by decide, by decide, fun wx H6 w9 wcs w1' w4' => ?_⟩
      have had6 := w9.m _ _ (show (upd (upd M a (.dK (caK la ta ea))) ea (.lst refs)) a = some (.dK (caK la ta ea)) by rw [upd_ne ae, upd_same])
      have hea6 := w9.m _ _ (show (upd (upd M a (.dK (caK la ta ea))) ea (.lst refs)) ea = some (.lst refs) from upd_same)
      refine ⟨_, rfl, _, rfl, a, _, rfl, ca_entries ▸ DGet.k (k := .inr "entries") had6, ea, rfl, ⟨refs, SqL.of hea6⟩, fun D hD => ?_⟩
      have rl := pe.length
      refine lc_map es wordV (rl ▸ walk_list (xs := refs)) (by omega) hD (fun H' s => SqL.of (s _ _ hea6)) (fun i a v H1 H2 Qe ha s1 y kk => ?_) (fun H7 s7 h7 => ?_)
      · obtain ⟨rfl, hv⟩ := y
        obtain ⟨e, he, ⟨ya, rfl, hya⟩⟩ := paired_at pe hv
        obtain rfl : a = e := by
          rw [ha] at he
          exact Option.some.inj he
        exact ⟨rfl, _, rfl, ya, _, _, _, rfl, rfl, SqT.of (s1 _ _ (w9.b _ _ hya)), atI_nat (j := 0) rfl, kk _ (Same.refl _)⟩
      · refine ⟨D, _, rfl, .inl (SqL.of h7), rfl, words_flat _, _, rfl, ?_⟩
        rw [if_pos rfl, inV_word]
        have w10 := w9.mono s7
        by_cases q : wx ∈ es.map Prod.fst
        · rw [decide_eq_true q]
          exact iteF ⟨⟨_, _, rfl⟩, B3, refs, es, s3, w10, pe, by omega, eo, nd'⟩
        · rw [decide_eq_false q]
          refine iteT ⟨_, rfl, a, .ref ea, rfl, ca_entries ▸ DGet.k (k := .inr "entries") (s7 _ _ had6), .inl ⟨rfl, _, .inl (.inl (s7 _ _ hea6))⟩, _, rfl, _, rfl, _, rfl, x, B3, _, 12, rfl, w10, by decide, by decide, fun f H8 f0 f1 w11 => ⟨(show 8 ≤ sizeLine by decide), fun l hl => ?_⟩⟩
          have w12 := w11.newM hl (o := .lst [.int 0, .int 0, .int 0, .int 1, .int 1, .int 2, .int 3, .int f])
          have hMl := w11.fm hl
          refine ⟨x, B3, _, l, _, rfl, w12, .inr upd_same, (by decide : 0 < 8), (by decide : 8 ≤ 1000), fun v H9 hv w13 => ⟨sz2, fun t ht => ?_⟩⟩
          obtain ⟨o, rfl, o0, o9⟩ : ∃ o : Int, v = .int o ∧ 0 ≤ o ∧ o ≤ 999 := by
            simp only [List.mem_cons, List.not_mem_nil, or_false] at hv
            rcases hv with rfl | rfl | rfl | rfl | rfl | rfl | rfl | rfl
            all_goals exact ⟨_, rfl, by omega, by omega⟩
          have w14 := (w13.off hMl).new ht (o := .tup [.str (tx wx), .int o])
          have sB := (w13.off hMl).sb ht (o := .tup [.str (tx wx), .int o])
          refine ⟨ea, refs, _, rfl, rfl, w14.m _ _ upd_same, small_line (by omega), ⟨_, _, rfl⟩, _, refs ++ [.ref t], es ++ [(wx, o)], s3.trans sB, ?_, Paired.snoc (ents_mono pe sB) ⟨t, rfl, upd_same⟩, by rw [List.length_append]; simp; omega, fun e he => ?_, ?_⟩
          · have w15 := w14.put (p := ea) (o := .lst refs) (o' := .lst (refs ++ [.ref t])) upd_same
            rw [upd_upd] at w15
            exact w15
          · rcases List.mem_append.mp he with he | he
            · exact eo e he
            · rw [List.mem_singleton.mp he]
              exact ⟨fun c hc => lok.az c (wcs c hc), w1', by dsimp only; omega, o0, o9⟩
          · rw [List.map_append, List.nodup_append]
            refine ⟨nd', by simp, fun u hu b hb => ?_⟩
            have : b = wx := by simpa using hb
            rw [this]
            exact fun z => q (z ▸ hu)
    · obtain ⟨⟨b4, b5, rfl⟩, B3, refs, es, s3, w8, pe, le, eo, nd'⟩ := pv
      refine ⟨_, rfl, k _ a la ta ea refs cs p es H5 ((s1.trans s2).trans (s3.trans (Same.new (w8.wd.bn upd_same)))) Ma (w8.frz ?_) lok ?_ ?_ pok upd_same (ents_mono pe (Same.new (w8.wd.bn upd_same))) ⟨by omega, eo, nd'⟩⟩
      · rw [upd_ne (Ne.symm ae)]
        exact Me
      · exact Same.new (w8.wd.bn upd_same) _ _ (s3 _ _ hla2)
      · exact Same.new (w8.wd.bn upd_same) _ _ (s3 _ _ hta)
def N__law_slips : List Str := ["_law_prices_here"]
theorem sc__law_slips : FnScope N__law_slips ["_law_prices_here"] (defScope (top 54)) := ⟨rfl, rfl, rfl, by decide +kernel, rfl, by decide +kernel, by decide +kernel⟩
def spSlips (K : PySem.W.Frag) : Sp := fun vs H Q _ => ∃ (B M : Hp) (t : Addr) (p : Sl), vs = [.ref t] ∧ Wd B M H ∧ PrAt B t p ∧ p.Ok ∧ ∀ B' a H', Same B B' → Wd B' M H' → SlipsAt K B' a p → Q (.ref a) H'
theorem c__law_slips (T : Tx P w K mg) : Cl P w K mg base CX0 5 "_law_slips" (spSlips K) := by
  have S := sc__law_slips
  have c_Slips := @c_Slips P w K mg base T
  refine mkCl0 T.d__law_slips T.gf__law_slips S (fun _ _ _ _ _ _ us hl => match us, hl with | [_], _ => rfl) (fun vs H Q E h => ?_) (fun cdv A outer s H vs Q E hr h => ?_)
  · obtain ⟨B, M, t, p, rfl, _⟩ := h
    rfl
  · obtain ⟨B, M, t, p, rfl, wd, ht, pok, k⟩ := h
    refine ⟨_, (pss_one (ps_ret (pe_slipsK c_Slips hr (by decide) rfl (pk_cons (pe_ix ix_tup (pv 0) pe_int (fun _ _ => rfl)) (pk_cons (pe_ix ix_tup (pv 0) pe_int (fun _ _ => rfl)) (pk_cons (pe_ix ix_tup (pv 0) pe_int (fun _ _ => rfl)) (pk_cons (pe_ix ix_tup (pv 0) pe_int (fun _ _ => rfl)) pk_nil))))))), ?_⟩
    have h := SqT.of (K := K) (wd.b _ _ ht)
    refine ⟨_, rfl, t, _, _, _, rfl, rfl, h, atI_nat (j := 0) rfl, _, rfl, t, _, _, _, rfl, rfl, h, atI_nat (j := 1) rfl, _, rfl, t, _, _, _, rfl, rfl, h, atI_nat (j := 2) rfl, _, rfl, t, _, _, _, rfl, rfl, h, atI_nat (j := 3) rfl, ?_⟩
    exact ⟨rfl, rfl, fun a dx ha hd ne => slips_made wd ha hd ne pok fun B' H' s1 w1 h1 => k B' a H' s1 w1 h1⟩
def N__law_speller : List Str := ["_law_case_here"]
theorem sc__law_speller : FnScope N__law_speller ["_law_case_here"] (defScope (top 55)) := ⟨rfl, rfl, rfl, by decide +kernel, rfl, by decide +kernel, by decide +kernel⟩
def spSpeller (K : PySem.W.Frag) : Sp := fun vs H Q _ => ∃ (B M : Hp) (a : Addr) (cs : List Nat) (s : Sh), vs = [.ref a] ∧ Wd B M H ∧ ShAt B a cs s ∧ ShOk s ∧ ∀ B' b H', Same B B' → Wd B' M H' → SpellerAt K B' b s.es s.p → Q (.ref b) H'
theorem c__law_speller (T : Tx P w K mg) : Cl P w K mg base CX0 7 "_law_speller" (spSpeller K) := by
  have S := sc__law_speller
  have c_Speller := @c_Speller P w K mg base T
  have c__law_slips := @c__law_slips P w K mg base T
  refine mkCl0 T.d__law_speller T.gf__law_speller S (fun _ _ _ _ _ _ us hl => match us, hl with | [_], _ => rfl) (fun vs H Q E h => ?_) (fun cdv A outer s H vs Q E hr h => ?_)
  · obtain ⟨B, M, a, cs, s, rfl, _⟩ := h
    rfl
  · obtain ⟨B, M, a, cs, sh, rfl, wd, ⟨lt, la, ta, ea, refs, h1, h2, h3, h4, h5⟩, ok, k⟩ := h
    have hu := hu_of hr
    refine ⟨_, (pss_one (ps_ret (pe_n c_Speller hr (by decide) rfl passN (pa_cons (pe_dget hu (pv 0) pe_str (fun _ _ => rfl)) (pa_cons (pe_f c__law_slips hr (by decide) rfl pass0 (pa_cons (pe_dget hu (pv 0) pe_str (fun _ _ => rfl)) pa_nil)) pa_nil))))), ?_⟩
    refine ⟨_, rfl, a, _, rfl, sh_entries ▸ DGet.k (k := .inr "entries") (wd.b _ _ h1), _, rfl, a, _, rfl, sh_prices ▸ DGet.k (k := .inr "prices") (wd.b _ _ h1), B, M, ta, sh.p, rfl, wd, h3, ok.p, fun B1 sa H1 s1 w1 hsl => ?_⟩
    exact fun b dx hb hd ne => speller_made w1 hb hd ne (.inl (w1.b _ _ (s1 _ _ h4))) (ents_mono h5 s1) (by rw [List.take_of_length_le ok.es.len]; exact ok.es) (Nat.le_succ_of_le ok.es.len) (.inr ⟨sa, rfl, hsl⟩) (fun _ B' H' s2 w2 h => k B' b H' (s1.trans s2) w2 h) (fun z => absurd ok.es.len (by omega))
def N__law_sheet : List Str := ["_law_draw", "_law_sheet_here"]
theorem sc__law_sheet : FnScope N__law_sheet ["_law_draw"] (defScope (top 63)) := ⟨rfl, rfl, rfl, by decide +kernel, rfl, by decide +kernel, by decide +kernel⟩
def spSheet : Sp := fun vs H Q _ => ∃ (x : Dx) (B M : Hp), vs = [.ref x.d] ∧ Drw x B M H ∧ ∀ B' a cs s H', Same B B' → Drw x B' M H' → ShAt B' a cs s → ShOk s → s.x = [] → Q (.ref a) H'
theorem c__law_sheet (T : Tx P w K mg) : Cl P w K mg base CX0 5 "_law_sheet" spSheet := by
  have S := sc__law_sheet
  have c__law_case := @c__law_case P w K mg base T
  refine mkCl0 T.d__law_sheet T.gf__law_sheet S (fun _ _ _ _ _ _ us hl => match us, hl with | [_], _ => rfl) (fun vs H Q E h => ?_) (fun cdv A outer s H vs Q E hr h => ?_)
  · obtain ⟨x, B, M, rfl, _⟩ := h
    rfl
  · obtain ⟨x, B, M, rfl, dw, k⟩ := h
    have hu := hu_of hr
    refine ⟨_, (pss_cons (ps_set (i := 1) S.nd rfl (Or.inl rfl) (pe_f c__law_case hr (by decide) rfl pass0 (pa_cons (pv 0) (pa_cons pe_int (pa_cons pe_int pa_nil)))))
    (pss_cons (ps_dput hu (pv 1) pe_str pe_str rfl)
    (pss_one (ps_ret (pv 1))))), ?_⟩
    refine ⟨_, rfl, x, B, M, rfl, dw, fun B1 a la ta ea refs cs p es H1 s1 Ma w1 lok hl ht pok he pe eok => ?_⟩
    refine ⟨_, rfl, a, _, rfl, DPut.k (k := .inr "text") (w1.m _ _ upd_same) (show 3 < sizeLine by decide), ?_⟩
    rw [ca_text]
    have w2 := w1.put (p := a) (o := .dK (caK la ta ea)) (o' := .dK (shK la ta ea (PySem.Str.ofString ""))) upd_same
    rw [upd_upd] at w2
    have sB : Same B1 (upd B1 a (.dK (shK la ta ea (PySem.Str.ofString "")))) := Same.new (w2.wd.bn upd_same)
    refine ⟨_, rfl, k _ a cs ⟨es, p, []⟩ _ (s1.trans sB) (w2.frz Ma) ⟨lok, la, ta, ea, refs, ?_, sB _ _ hl, sB _ _ ht, sB _ _ he, ents_mono pe sB⟩ ⟨eok, pok, (fun _ h => nomatch h), (by decide : 0 ≤ 400)⟩ rfl⟩
    rw [← tx_nil]
    exact upd_same
end
end Mw
/-! W22: the law's own price -/
namespace Mw
open PySem PySem.Spec PyProof.Rows L2
theorem app_int {B M H : Hp} {sm : Addr} {l : List Int} (v : Int) (w : Wd B (upd M sm (.lst (l.map V.int))) H) : Wd B (upd M sm (.lst ((l ++ [v]).map V.int))) (upd H sm (.lst (l.map V.int ++ [.int v]))) := by
  have h := w.put (p := sm) (o := .lst (l.map V.int)) (o' := .lst (l.map V.int ++ [.int v])) upd_same
  rw [upd_upd] at h
  rw [List.map_append]
  exact h
theorem cut_two (l : List Nat) (i : Nat) : cutS (tx l) (some (i : Int)) (some ((i : Int) + 2)) = tx ((l.drop i).take 2) := by
  have e1 : HT.sIx (tx l).length 0 (some (i : Int)) = min i l.length := by
    rw [tx_len]
    unfold HT.sIx
    simp only []
    rw [if_neg (by omega), show (i : Int).toNat = i by omega]
  have e2 : HT.sIx (tx l).length (tx l).length (some ((i : Int) + 2)) = min (i + 2) l.length := by
    rw [tx_len]
    unfold HT.sIx
    simp only []
    rw [if_neg (by omega), show ((i : Int) + 2).toNat = i + 2 by omega]
  unfold cutS
  rw [e1, e2]
  show (⟨((l.toArray.toList.drop (min i l.length)).take (min (i + 2) l.length - min i l.length)).toArray⟩ : Str) = ⟨((l.drop i).take 2).toArray⟩
  congr 2
  by_cases q : i ≤ l.length
  · rw [Nat.min_eq_left q]
    apply List.ext_getElem?
    intro n
    rw [List.getElem?_take, List.getElem?_take]
    by_cases h : n < 2
    · by_cases h2 : n < min (i + 2) l.length - i
      · rw [if_pos h, if_pos h2]
      · rw [if_pos h, if_neg h2, List.getElem?_drop, List.getElem?_eq_none (by omega)]
    · rw [if_neg h, if_neg (by omega)]
  · rw [List.drop_of_length_le (l := l) (i := i) (by omega), show min (i + 2) l.length - min i l.length = 0 by omega]
    rfl
theorem two_of {l : List Nat} {i : Nat} (h : i + 1 < l.length) : (l.drop i).take 2 = [l[i], l[i + 1]] := by
  rw [List.drop_eq_getElem_cons (by omega), List.drop_eq_getElem_cons (by omega)]
  rfl
theorem two_len {l : List Nat} {i : Nat} : ((l.drop i).take 2).length = 2 ↔ i + 1 < l.length := by
  rw [List.length_take, List.length_drop]
  omega
theorem swap_iff {p : Sl} {g x : List Nat} {i j : Nat} : (((g.drop i).take 2).length = 2 ∧ (x.drop j).take 2 = ((g.drop i).take 2).reverse ∧ (x.drop j).take 2 ≠ (g.drop i).take 2) ↔ bSw p g x i j := by
  unfold bSw
  constructor
  · rintro ⟨h1, h2, h3⟩
    have hi := two_len.mp h1
    have hj : j + 1 < x.length := two_len.mp (by rw [h2, List.length_reverse]; exact h1)
    rw [two_of hi, two_of hj] at h2 h3
    simp at h2 h3
    refine ⟨hi, hj, ?_, ?_, ?_⟩
    · rw [List.getElem?_eq_getElem (by omega), List.getElem?_eq_getElem hj, h2.2]
    · rw [List.getElem?_eq_getElem hi, List.getElem?_eq_getElem (by omega), h2.1]
    · rw [List.getElem?_eq_getElem (by omega), List.getElem?_eq_getElem hi]
      intro z
      have z' := Option.some.inj z
      exact h3 (by rw [h2.1, z']) (by rw [h2.2, z'])
  · rintro ⟨hi, hj, h1, h2, h3⟩
    rw [List.getElem?_eq_getElem (by omega), List.getElem?_eq_getElem hj] at h1
    rw [List.getElem?_eq_getElem hi, List.getElem?_eq_getElem (by omega)] at h2
    rw [List.getElem?_eq_getElem (by omega), List.getElem?_eq_getElem hi] at h3
    have h1 := Option.some.inj h1
    have h2 := Option.some.inj h2
    refine ⟨two_len.mpr hi, ?_, ?_⟩
    · rw [two_of hi, two_of hj, ← h1, ← h2]
      rfl
    · rw [two_of hi, two_of hj, ← h1, ← h2]
      intro z
      simp at z
      exact h3 (by rw [z.1])
/-- the table holds what is behind (k, m) -/
def Tb (p : Sl) (g x : List Nat) (kvs : List (List Key × V)) (k m : Nat) : Prop := ∀ i j : Nat, i ≤ g.length → j ≤ x.length → (g.length < i + k ∨ (g.length = i + k ∧ x.length < j + m)) → valV kvs [.inl (i : Int), .inl (j : Int)] = some (.int (bak p g x i j))
theorem Tb.put {p : Sl} {g x : List Nat} {kvs : List (List Key × V)} {k m i j : Nat} (h : Tb p g x kvs k m) (hi : i + k = g.length) (hj : j + m = x.length) {v : Int} (hv : bak p g x i j = v) : Tb p g x (putK kvs [.inl (i : Int), .inl (j : Int)] (.int v)) k (m + 1) := by
  intro i' j' hi' hj' q
  rw [valV_put]
  by_cases e : i' = i ∧ j' = j
  · rw [e.1, e.2, if_pos rfl, hv]
  · rw [if_neg]
    · exact h i' j' hi' hj' (by omega)
    · intro z
      have z1 := List.cons.inj z
      have z2 := List.cons.inj z1.2
      have a1 := Sum.inl.inj z1.1
      have a2 := Sum.inl.inj z2.1
      exact e ⟨by omega, by omega⟩
theorem Tb.get {p : Sl} {g x : List Nat} {kvs : List (List Key × V)} {k m i j : Nat} {a b : Int} (h : Tb p g x kvs k m) (ea : a = i) (eb : b = j) (hi : i ≤ g.length) (hj : j ≤ x.length) (q : g.length < i + k ∨ (g.length = i + k ∧ x.length < j + m)) : valV kvs [.inl a, .inl b] = some (.int (bak p g x i j)) := by
  rw [ea, eb]
  exact h i j hi hj q
theorem Tb.dget {p : Sl} {g x : List Nat} {kvs : List (List Key × V)} {k m : Nat} {H : Hp} {d t : Addr} (h : Tb p g x kvs k m) (i j : Nat) {a b : Int} (hd : H d = some (.dT kvs)) (ht : H t = some (.tup [.int a, .int b])) (ea : a = i) (eb : b = j) (hi : i ≤ g.length) (hj : j ≤ x.length) (q : g.length < i + k ∨ (g.length = i + k ∧ x.length < j + m)) :
    DGet H d (.ref t) (some (.int (bak p g x i j))) := h.get ea eb hi hj q ▸ DGet.t (k := [.inl a, .inl b]) hd ht
theorem Tb.row {p : Sl} {g x : List Nat} {kvs : List (List Key × V)} {k : Nat} (h : Tb p g x kvs k (x.length + 1)) : Tb p g x kvs (k + 1) 0 := fun i j hi hj q => h i j hi hj (by omega)
theorem b0_len (g x : List Nat) (i j : Nat) : (b0 g x i j).length ≤ 1 := by unfold b0; split <;> simp
theorem b1_len (p : Sl) (g x : List Nat) (i j : Nat) : (b1 p g x i j).length ≤ 1 := by unfold b1; split <;> simp
theorem b2_len (p : Sl) (g x : List Nat) (i j : Nat) : (b2 p g x i j).length ≤ 1 := by unfold b2; split <;> simp
theorem b3_len (p : Sl) (g x : List Nat) (i j : Nat) : (b3 p g x i j).length ≤ 1 := by unfold b3; split <;> simp
section
variable {P : Program} {w : World} {K : PySem.W.Frag} {mg : Str → Option Value} {base : Heap}
def N__law_price : List Str := ["_law_prices_here", "_law_goal", "_law_page", "_law_further", "_law_lack", "_law_fault", "_law_turned", "_law_table", "_law_i", "_law_j", "_law_some", "_law_pair", "_law_other"]
theorem sc__law_price : FnScope N__law_price ["_law_prices_here", "_law_goal", "_law_page"] (defScope (top 58)) := ⟨rfl, rfl, rfl, by decide +kernel, rfl, by decide +kernel, by decide +kernel⟩
def spLawPrice : Sp := fun vs H Q _ => ∃ (t : Addr) (p : Sl) (g x : List Nat), vs = [.ref t, .str (tx g), .str (tx x)] ∧ PrAt H t p ∧ g.length ≤ 10 ∧ x.length ≤ 1000 ∧ ∀ H', Same H H' → Q (.int (dist p g x)) H'
theorem c__law_price (T : Tx P w K mg) : Cl P w K mg base CX0 1 "_law_price" spLawPrice := by
  have S := sc__law_price
  refine mkCl0 T.d__law_price T.gf__law_price S (fun _ _ _ _ _ _ us hl => match us, hl with | [_, _, _], _ => rfl) (fun vs H Q E h => ?_) (fun cdv A outer s H vs Q E hr h => ?_)
  · obtain ⟨t, p, g, x, rfl, _⟩ := h
    rfl
  · obtain ⟨ta, p, g, x, rfl, ht, hg, hx, kk⟩ := h
    have hu := hu_of hr
    refine ⟨_, (pss_cons (ps_asg (pv 0) (pg_tup rfl (pgs_cons (pg_name (i := 3) S.nd rfl (Or.inl rfl)) (pgs_cons (pg_name (i := 4) S.nd rfl (Or.inl rfl)) (pgs_cons (pg_name (i := 5) S.nd rfl (Or.inl rfl)) (pgs_cons (pg_name (i := 6) S.nd rfl (Or.inl rfl)) pgs_nil))))))
    (pss_cons (ps_set (i := 7) S.nd rfl (Or.inl rfl) pe_dnewT)
    (pss_cons (ps_for PassesOwn.never rfl (pi_range3 (by rfl) T.n_range (pa_cons (pe_callB call_len_str rfl T.n_len bt_len (pa_cons (pv 1) pa_nil)) (pa_cons (pe_un un_neg pe_int) (pa_cons (pe_un un_neg pe_int) pa_nil)))) (pg_name (i := 8) S.nd rfl (Or.inl rfl))
    (pss_one (ps_for PassesOwn.never rfl (pi_range3 (by rfl) T.n_range (pa_cons (pe_callB call_len_str rfl T.n_len bt_len (pa_cons (pv 2) pa_nil)) (pa_cons (pe_un un_neg pe_int) (pa_cons (pe_un un_neg pe_int) pa_nil)))) (pg_name (i := 9) S.nd rfl (Or.inl rfl))
    (pss_cons (ps_set (i := 10) S.nd rfl (Or.inl rfl) (pe_ifExp (PW.pt (pw_and (pt_cmpR op_eq (pv 8) (pe_callB call_len_str rfl T.n_len bt_len (pa_cons (pv 1) pa_nil)) (nomark _)) (pw_and1 (pt_cmpR op_eq (pv 9) (pe_callB call_len_str rfl T.n_len bt_len (pa_cons (pv 2) pa_nil)) (nomark _))))) (pe_lst (pa_cons pe_int pa_nil)) (pe_lst pa_nil)))
    (C8.pss_cut (ps_if (pt_cmpR op_lt (pv 9) (pe_callB call_len_str rfl T.n_len bt_len (pa_cons (pv 2) pa_nil)) (nomark _)) (pss_one (ps_expr (pe_bm PySem.F.plainAttrs_list PySem.F.slot_list_append PySem.F.type_list_append mt_append (pv 10) (pa_cons (pe_op op_add (pv 3) (pe_dget hu (pv 7) (pe_tup (pa_cons (pv 8) (pa_cons (pe_op op_add (pv 9) pe_int) pa_nil))) (fun _ _ => rfl))) pa_nil)))) pss_nil)
    (C8.pss_cut (ps_if (pt_cmpR op_lt (pv 8) (pe_callB call_len_str rfl T.n_len bt_len (pa_cons (pv 1) pa_nil)) (nomark _)) (pss_one (ps_expr (pe_bm PySem.F.plainAttrs_list PySem.F.slot_list_append PySem.F.type_list_append mt_append (pv 10) (pa_cons (pe_op op_add (pv 4) (pe_dget hu (pv 7) (pe_tup (pa_cons (pe_op op_add (pv 8) pe_int) (pa_cons (pv 9) pa_nil))) (fun _ _ => rfl))) pa_nil)))) pss_nil)
    (C8.pss_cut (ps_if (PW.pt (pw_and (pt_cmpR op_lt (pv 8) (pe_callB call_len_str rfl T.n_len bt_len (pa_cons (pv 1) pa_nil)) (nomark _)) (pw_and1 (pt_cmpR op_lt (pv 9) (pe_callB call_len_str rfl T.n_len bt_len (pa_cons (pv 2) pa_nil)) (nomark _))))) (pss_one (ps_expr (pe_bm PySem.F.plainAttrs_list PySem.F.slot_list_append PySem.F.type_list_append mt_append (pv 10) (pa_cons (pe_op op_add (pe_ifExp (pt_cmpR op_eq (pe_ix ix_str (pv 1) (pv 8) (fun _ _ => rfl)) (pe_ix ix_str (pv 2) (pv 9) (fun _ _ => rfl)) (nomark _)) pe_int (pv 5)) (pe_dget hu (pv 7) (pe_tup (pa_cons (pe_op op_add (pv 8) pe_int) (pa_cons (pe_op op_add (pv 9) pe_int) pa_nil))) (fun _ _ => rfl))) pa_nil)))) pss_nil)
    (pss_cons (ps_par (i := 11) (j := 12) (by rfl) S.nd rfl rfl (by decide) rfl rfl (pa_cons (pe_slice sl_str (pv 1) (po_some (pv 8)) (po_some (pe_op op_add (pv 8) pe_int))) (pa_cons (pe_slice sl_str (pv 2) (po_some (pv 9)) (po_some (pe_op op_add (pv 9) pe_int))) pa_nil)) (by rfl))
    (C8.pss_cut (ps_if (PW.pt (pw_and (pt_cmpR op_notN (pv 6) pe_non (nomark _)) (pw_and (pt_cmpR op_eq (pe_callB call_len_str rfl T.n_len bt_len (pa_cons (pv 11) pa_nil)) pe_int (nomark _)) (pw_and (pt_cmpR op_eq (pv 12) (pe_revS (pv 11)) (nomark _)) (pw_and1 (pt_cmpR op_ne (pv 12) (pv 11) (nomark _))))))) (pss_one (ps_expr (pe_bm PySem.F.plainAttrs_list PySem.F.slot_list_append PySem.F.type_list_append mt_append (pv 10) (pa_cons (pe_op op_add (pv 6) (pe_dget hu (pv 7) (pe_tup (pa_cons (pe_op op_add (pv 8) pe_int) (pa_cons (pe_op op_add (pv 9) pe_int) pa_nil))) (fun _ _ => rfl))) pa_nil)))) pss_nil)
    (pss_one (ps_dput hu (pv 7) (pe_tup (pa_cons (pv 8) (pa_cons (pv 9) pa_nil))) (pe_callB (cr_min rfl) rfl T.n_min bt_min (pa_cons (pv 10) pa_nil)) rfl)))))))))))
    (pss_one (ps_ret (pe_dget hu (pv 7) (pe_tup (pa_cons pe_int (pa_cons pe_int pa_nil))) (fun _ _ => rfl))))))), ?_⟩
    have lx : (tx x).length ≤ sizeLine := by rw [tx_len]; exact Nat.le_trans hx (by decide)
    have lt : (tx g).length ≤ sizeLine := by rw [tx_len]; exact Nat.le_trans hg (by decide)
    refine ⟨_, rfl, ta, _, rfl, SqT.of ht, rfl, _, _, rfl, _, _, rfl, _, _, rfl, _, _, rfl, rfl, fun d hd => ?_⟩
    have wn := (Wd.none H).newM hd (o := .dT [])
    refine ⟨_, rfl, _, rfl, lt, _, rfl, _, rfl, _, _, _, _, rfl, RgC.neg (by rw [tx_len]; omega) (by rw [tx_len]; omega) (by decide) (by decide), ?_⟩
    rw [tx_len, show ((g.length : Int) - -1).toNat = g.length + 1 by omega]
    refine for_it walk_rangeC (fun k σ H' => ∃ (kvs : List (List Key × V)) (b8 b9 b10 b11 b12 : Option V), σ = [some (.ref ta), some (.str (tx g)), some (.str (tx x)), some (.int p.ex), some (.int p.mi), some (.int p.wr), some (swV p.sw), some (.ref d), b8, b9, b10, b11, b12] ∧
        Wd H (upd (fun _ => none) d (.dT kvs)) H' ∧ Tb p g x kvs k 0 ∧ kvs.length ≤ k * (x.length + 1))
      ⟨[], _, _, _, _, _, rfl, wn, fun i j hi hj q => by omega, by simp⟩ (fun _ _ _ _ _ => trivial) (fun k _ _ _ H1 hk pv y => ?_) (fun σ H1 pv => ?_)
    · obtain ⟨kvs, b8, b9, b10, b11, b12, rfl, w1, tb, kl⟩ := pv
      obtain ⟨rfl, rfl⟩ := y
      dsimp only
      rw [show (g.length : Int) + (k : Nat) * -1 = ((g.length - k : Nat) : Int) by omega]
      generalize ei : g.length - k = i
      refine ⟨_, rfl, _, rfl, lx, _, rfl, _, rfl, _, _, _, _, rfl, RgC.neg (by rw [tx_len]; omega) (by rw [tx_len]; omega) (by decide) (by decide), ?_⟩
      rw [tx_len, show ((x.length : Int) - -1).toNat = x.length + 1 by omega]
      refine for_it walk_rangeC (fun m σ H' => ∃ (kvs : List (List Key × V)) (b9 b10 b11 b12 : Option V), σ = [some (.ref ta), some (.str (tx g)), some (.str (tx x)), some (.int p.ex), some (.int p.mi), some (.int p.wr), some (swV p.sw), some (.ref d), some (.int (i : Int)), b9, b10, b11, b12] ∧
          Wd H (upd (fun _ => none) d (.dT kvs)) H' ∧ Tb p g x kvs k m ∧ kvs.length ≤ k * (x.length + 1) + m)
        ⟨kvs, _, _, _, _, rfl, w1, tb, kl⟩ (fun _ _ _ _ _ => trivial) (fun m _ _ _ H2 hm pv y => ?_) (fun σ H2 pv => ?_)
      · clear b8 b9 b10 b11 b12 w1 tb kl kvs
        obtain ⟨kvs, b9, b10, b11, b12, rfl, w1, tb, kl⟩ := pv
        obtain ⟨rfl, rfl⟩ := y
        dsimp only
        rw [show (x.length : Int) + (m : Nat) * -1 = ((x.length - m : Nat) : Int) by omega]
        generalize ej : x.length - m = j
        have hi : i + k = g.length := by omega
        have hj : j + m = x.length := by omega
        have hil : i ≤ g.length := by omega
        have hjl : j ≤ x.length := by omega
        have e1 : decide (V.int (i : Int) = V.int ((tx g).length : Nat)) = decide (i = g.length) := decide_eq_decide.mpr (by rw [tx_len]; simp; omega)
        have e2 : decide (V.int (j : Int) = V.int ((tx x).length : Nat)) = decide (j = x.length) := decide_eq_decide.mpr (by rw [tx_len]; simp; omega)
        have go : ∀ sm H3, H2 sm = none → H3 = upd H2 sm (.lst ((b0 g x i j).map V.int)) → True := fun _ _ _ _ => trivial
        refine ⟨_, rfl, _, rfl, _, rfl, lt, rfl, _, rfl, ?_⟩
        dsimp only
        rw [e1]
        rcases (show (i = g.length ∧ j = x.length) ∨ (i = g.length ∧ j ≠ x.length) ∨ i ≠ g.length by omega) with ⟨c1, c2⟩ | ⟨c1, c2⟩ | c1
        case' inl =>
          rw [decide_eq_true c1]
          refine iteT ⟨_, rfl, _, rfl, _, rfl, lx, rfl, _, rfl, ?_⟩
          dsimp only
          rw [e2, decide_eq_true c2]
          refine iteT ⟨sz1, fun sm hsm => ?_⟩
          have w2 : Wd H (upd (upd (fun _ => none) d (.dT kvs)) sm (.lst ((b0 g x i j).map V.int))) (upd H2 sm (.lst [.int 0])) := by
            rw [show (b0 g x i j).map V.int = [.int 0] by unfold b0; rw [if_pos ⟨c1, c2⟩]; rfl]
            exact w1.newM hsm
        case' inr.inl =>
          rw [decide_eq_true c1]
          refine iteT ⟨_, rfl, _, rfl, _, rfl, lx, rfl, _, rfl, ?_⟩
          dsimp only
          rw [e2, decide_eq_false c2]
          refine iteF ⟨sz0, fun sm hsm => ?_⟩
          have w2 : Wd H (upd (upd (fun _ => none) d (.dT kvs)) sm (.lst ((b0 g x i j).map V.int))) (upd H2 sm (.lst [])) := by
            rw [show (b0 g x i j).map V.int = [] by unfold b0; rw [if_neg (fun z => c2 z.2)]; rfl]
            exact w1.newM hsm
        case' inr.inr =>
          rw [decide_eq_false c1]
          refine iteF ⟨sz0, fun sm hsm => ?_⟩
          have w2 : Wd H (upd (upd (fun _ => none) d (.dT kvs)) sm (.lst ((b0 g x i j).map V.int))) (upd H2 sm (.lst [])) := by
            rw [show (b0 g x i j).map V.int = [] by unfold b0; rw [if_neg (fun z => c1 z.1)]; rfl]
            exact w1.newM hsm
        all_goals
          have nds : d ≠ sm := ne_of_none (w1.m _ _ upd_same) hsm
          refine ⟨fun σ' H' => σ' = [some (.ref ta), some (.str (tx g)), some (.str (tx x)), some (.int p.ex), some (.int p.mi), some (.int p.wr), some (swV p.sw), some (.ref d), some (.int (i : Int)), some (.int (j : Int)), some (.ref sm), b11, b12] ∧ Wd H (upd (upd (fun _ => none) d (.dT kvs)) sm (.lst ((b0 g x i j ++ b1 p g x i j).map V.int))) H', ?_, ?_⟩
          · refine ⟨_, rfl, _, rfl, _, rfl, lx, _, _, rfl, rfl, _, rfl, ?_⟩
            rw [tx_len]
            refine ite2 (fun q => ?_) (fun q => ⟨rfl, ?_⟩)
            · have q := of_decide_eq_true q
              refine ⟨_, rfl, .inl ⟨rfl, _, .inl (.inl (w2.m _ _ upd_same))⟩, _, rfl, _, rfl, _, rfl, _, rfl, _, _, rfl, rfl, sz2, fun t ht => ?_⟩
              have w3 := w2.mono (Same.new ht (o := .tup [.int (i : Int), .int ((j : Int) + 1)]))
              refine ⟨d, .int (bak p g x i (j + 1)), rfl, tb.dget i (j + 1) (w3.m _ _ (by rw [upd_ne nds, upd_same])) upd_same rfl (by omega) hil (by omega) (by omega), _, _, rfl, rfl, sm, _, _, rfl, rfl, w3.m _ _ upd_same, small_line (by unfold b0; split <;> decide), rfl, ?_⟩
              rw [show b1 p g x i j = [p.ex + bak p g x i (j + 1)] from if_pos (by omega)]
              exact app_int _ w3
            · rw [show b1 p g x i j = [] from if_neg (fun z => q (decide_eq_true (by omega))), List.append_nil]
              exact w2
          rintro σ1 H3 ⟨rfl, w3⟩
          refine ⟨fun σ' H' => σ' = [some (.ref ta), some (.str (tx g)), some (.str (tx x)), some (.int p.ex), some (.int p.mi), some (.int p.wr), some (swV p.sw), some (.ref d), some (.int (i : Int)), some (.int (j : Int)), some (.ref sm), b11, b12] ∧ Wd H (upd (upd (fun _ => none) d (.dT kvs)) sm (.lst ((b0 g x i j ++ b1 p g x i j ++ b2 p g x i j).map V.int))) H', ?_, ?_⟩
          · refine ⟨_, rfl, _, rfl, _, rfl, lt, _, _, rfl, rfl, _, rfl, ?_⟩
            rw [tx_len]
            refine ite2 (fun q => ?_) (fun q => ⟨rfl, ?_⟩)
            · have q := of_decide_eq_true q
              refine ⟨_, rfl, .inl ⟨rfl, _, .inl (.inl (w3.m _ _ upd_same))⟩, _, rfl, _, rfl, _, rfl, _, _, rfl, rfl, _, rfl, sz2, fun t ht => ?_⟩
              have w4 := w3.mono (Same.new ht (o := .tup [.int ((i : Int) + 1), .int (j : Int)]))
              refine ⟨d, .int (bak p g x (i + 1) j), rfl, tb.dget (i + 1) j (w4.m _ _ (by rw [upd_ne nds, upd_same])) upd_same (by omega) rfl (by omega) hjl (by omega), _, _, rfl, rfl, sm, _, _, rfl, rfl, w4.m _ _ upd_same, small_line (by have := b0_len g x i j; have := b1_len p g x i j; simp only [List.length_map, List.length_append]; omega), rfl, ?_⟩
              rw [show b2 p g x i j = [p.mi + bak p g x (i + 1) j] from if_pos (by omega)]
              exact app_int _ w4
            · rw [show b2 p g x i j = [] from if_neg (fun z => q (decide_eq_true (by omega))), List.append_nil]
              exact w3
          clear w2 hsm
          rintro σ1 H4 ⟨rfl, w4⟩
          refine ⟨fun σ' H' => σ' = [some (.ref ta), some (.str (tx g)), some (.str (tx x)), some (.int p.ex), some (.int p.mi), some (.int p.wr), some (swV p.sw), some (.ref d), some (.int (i : Int)), some (.int (j : Int)), some (.ref sm), b11, b12] ∧ Wd H (upd (upd (fun _ => none) d (.dT kvs)) sm (.lst ((b0 g x i j ++ b1 p g x i j ++ b2 p g x i j ++ b3 p g x i j).map V.int))) H', ?_, ?_⟩
          · have no : ¬ (i < g.length ∧ j < x.length) → Wd H (upd (upd (fun _ => none) d (.dT kvs)) sm (.lst ((b0 g x i j ++ b1 p g x i j ++ b2 p g x i j ++ b3 p g x i j).map V.int))) H4 := fun n => by
              rw [show b3 p g x i j = [] from if_neg n, List.append_nil]
              exact w4
            refine ⟨_, rfl, _, rfl, _, rfl, lt, _, _, rfl, rfl, _, rfl, ?_⟩
            rw [tx_len]
            refine ite2 (fun q1 => ?_) (fun q1 => iteF ⟨rfl, no (fun z => q1 (decide_eq_true (by omega)))⟩)
            refine ⟨_, rfl, _, rfl, _, rfl, lx, _, _, rfl, rfl, _, rfl, ?_⟩
            rw [tx_len]
            refine ite2 (fun q2 => ?_) (fun q2 => ⟨rfl, no (fun z => q2 (decide_eq_true (by omega)))⟩)
            have q1 := of_decide_eq_true q1
            have q2 := of_decide_eq_true q2
            have hgi : i < g.length := by omega
            have hxj : j < x.length := by omega
            have ag : atI (tx g).cps.toList (i : Int) = some g[i] := atI_nat (List.getElem?_eq_getElem hgi)
            have ax : atI (tx x).cps.toList (j : Int) = some x[j] := atI_nat (List.getElem?_eq_getElem hxj)
            have eb : b3 p g x i j = [(if g[i] = x[j] then 0 else p.wr) + bak p g x (i + 1) (j + 1)] := by
              unfold b3
              rw [if_pos ⟨hgi, hxj⟩, List.getElem?_eq_getElem hgi, List.getElem?_eq_getElem hxj]
              simp only [Option.some.injEq]
            have ed : decide (V.str (tx [g[i]]) = V.str (tx [x[j]])) = decide (g[i] = x[j]) := decide_eq_decide.mpr (by rw [tx_V]; simp)
            refine ⟨_, rfl, .inl ⟨rfl, _, .inl (.inl (w4.m _ _ upd_same))⟩, ?_⟩
            refine ⟨_, rfl, _, rfl, _, _, _, rfl, rfl, lt, ag, _, rfl, _, rfl, _, _, _, rfl, rfl, lx, ax, rfl, _, rfl, ?_⟩
            rw [ed]
            have len3 : (List.map V.int (b0 g x i j ++ b1 p g x i j ++ b2 p g x i j)).length < sizeLine := small_line (by have := b0_len g x i j; have := b1_len p g x i j; have := b2_len p g x i j; simp only [List.length_map, List.length_append]; omega)
            refine ite2 (fun q3 => ?_) (fun q3 => ?_)
            case' refine_1 => rw [if_pos (of_decide_eq_true q3)] at eb
            case' refine_2 =>
              rw [if_neg (fun z => q3 (decide_eq_true z))] at eb
              refine ⟨_, rfl, ?_⟩
            all_goals
              refine ⟨_, rfl, _, rfl, _, _, rfl, rfl, _, rfl, _, _, rfl, rfl, sz2, fun t ht => ?_⟩
              have w5 := w4.mono (Same.new ht (o := .tup [.int ((i : Int) + 1), .int ((j : Int) + 1)]))
              refine ⟨d, .int (bak p g x (i + 1) (j + 1)), rfl, tb.dget (i + 1) (j + 1) (w5.m _ _ (by rw [upd_ne nds, upd_same])) upd_same (by omega) (by omega) (by omega) (by omega) (by omega), _, _, rfl, rfl, sm, _, _, rfl, rfl, w5.m _ _ upd_same, len3, rfl, ?_⟩
              rw [eb]
              exact app_int _ w5
          rintro σ1 H5 ⟨rfl, w5⟩
          refine ⟨_, rfl, _, rfl, _, rfl, _, rfl, _, _, rfl, rfl, _, rfl, _, rfl, lt, _, rfl, _, rfl, _, rfl, _, rfl, _, _, rfl, rfl, _, rfl, _, rfl, lx, _, _, rfl, ?_⟩
          rw [cut_two, cut_two]
          generalize eU : (g.drop i).take 2 = U
          generalize eW : (x.drop j).take 2 = W
          have lU : U.length ≤ 2 := by rw [← eU, List.length_take]; omega
          have lW : W.length ≤ 2 := by rw [← eW, List.length_take]; omega
          have zU : (tx U).length ≤ sizeLine := by rw [tx_len]; exact Nat.le_trans lU (by decide)
          have sw := swap_iff (p := p) (g := g) (x := x) (i := i) (j := j)
          rw [eU, eW] at sw
          refine ⟨fun σ' H' => σ' = [some (.ref ta), some (.str (tx g)), some (.str (tx x)), some (.int p.ex), some (.int p.mi), some (.int p.wr), some (swV p.sw), some (.ref d), some (.int (i : Int)), some (.int (j : Int)), some (.ref sm), some (.str (tx U)), some (.str (tx W))] ∧ Wd H (upd (upd (fun _ => none) d (.dT kvs)) sm (.lst ((rest p g x i j).map V.int))) H', ?_, ?_⟩
          · have no : ((∀ s, p.sw = some s → ¬ bSw p g x i j)) → Wd H (upd (upd (fun _ => none) d (.dT kvs)) sm (.lst ((rest p g x i j).map V.int))) H5 := fun n => by
              unfold rest
              rw [show b4 p g x i j = [] by
                unfold b4
                split
                · rfl
                · rename_i s es
                  rw [if_neg (n s es)], List.append_nil]
              exact w5
            refine ⟨_, rfl, rfl, _, rfl, ?_⟩
            cases es : p.sw with
            | none => exact iteF (iteF ⟨rfl, no (fun s z => by rw [es] at z; cases z)⟩)
            | some sv =>
              refine iteT ⟨_, rfl, _, rfl, zU, rfl, _, rfl, ?_⟩
              refine ite2 (fun q1 => ?_) (fun q1 => iteF ⟨rfl, no (fun s _ z => q1 (decide_eq_true (by rw [tx_len, (sw.mpr z).1]; rfl)))⟩)
              refine ⟨_, rfl, _, rfl, _, rfl, zU, rfl, _, rfl, ?_⟩
              refine ite2 (fun q2 => ?_) (fun q2 => iteF ⟨rfl, no (fun s _ z => q2 (decide_eq_true (by rw [(sw.mpr z).2.1])))⟩)
              refine ⟨_, rfl, _, rfl, rfl, _, rfl, ?_⟩
              refine ite2 (fun q3 => ?_) (fun q3 => ⟨rfl, no (fun s _ z => q3 (by
                have := (sw.mpr z).2.2
                simpa [tx_V] using this))⟩)
              have hsw : bSw p g x i j := sw.mp ⟨by
                  have := of_decide_eq_true q1
                  rw [tx_len] at this
                  have := V.int.inj this
                  omega, by
                  have := of_decide_eq_true q2
                  exact tx_V.mp this, by
                  intro z
                  rw [z] at q3
                  simp at q3⟩
              have er : rest p g x i j = (b0 g x i j ++ b1 p g x i j ++ b2 p g x i j ++ b3 p g x i j) ++ [sv + bak p g x (i + 2) (j + 2)] := by
                unfold rest
                rw [show b4 p g x i j = [sv + bak p g x (i + 2) (j + 2)] by
                  unfold b4
                  rw [es]
                  exact if_pos hsw]
              refine ⟨_, rfl, .inl ⟨rfl, _, .inl (.inl (w5.m _ _ upd_same))⟩, ?_⟩
              refine ⟨_, rfl, _, rfl, _, rfl, _, _, rfl, rfl, _, rfl, _, _, rfl, rfl, sz2, fun t ht => ?_⟩
              have w6 := w5.mono (Same.new ht (o := .tup [.int ((i : Int) + 2), .int ((j : Int) + 2)]))
              have hs1 := hsw.1
              have hs2 := hsw.2.1
              refine ⟨d, .int (bak p g x (i + 2) (j + 2)), rfl, tb.dget (i + 2) (j + 2) (w6.m _ _ (by rw [upd_ne nds, upd_same])) upd_same (by omega) (by omega) (by omega) (by omega) (by omega), _, _, rfl, rfl, sm, _, _, rfl, rfl, w6.m _ _ upd_same, small_line (by have := b0_len g x i j; have := b1_len p g x i j; have := b2_len p g x i j; have := b3_len p g x i j; simp only [List.length_map, List.length_append]; omega), rfl, ?_⟩
              rw [er]
              exact app_int _ w6
          rintro σ1 H6 ⟨rfl, w6⟩
          have hkv : kvs.length < sizeLine := small_line (by
            have h1 : k * (x.length + 1) ≤ 10 * 1001 := Nat.mul_le_mul (by omega) (by omega)
            omega)
          refine ⟨_, rfl, sm, rest p g x i j, rfl, SqL.of (w6.m _ _ upd_same), List.length_pos_iff.mpr (rest_ne hil hjl), fun v hv hle => ?_⟩
          refine ⟨_, rfl, _, rfl, _, rfl, sz2, fun t ht => ?_⟩
          have w7 := w6.mono (Same.new ht (o := .tup [.int (i : Int), .int (j : Int)]))
          have hd7 := w7.m _ _ (show (upd (upd (fun _ => none) d (.dT kvs)) sm (.lst ((rest p g x i j).map V.int))) d = some (.dT kvs) by rw [upd_ne nds, upd_same])
          refine ⟨d, _, rfl, DPut.t (k := [.inl (i : Int), .inl (j : Int)]) hd7 upd_same hkv, _, _, _, _, _, rfl, ?_, tb.put hi hj (rest_min hil hjl hv hle), ?_⟩
          · have w8 := w7.put (p := d) (o := .dT kvs) (o' := .dT (putK kvs [.inl (i : Int), .inl (j : Int)] (.int v))) (by rw [upd_ne nds, upd_same])
            refine w8.less fun a o h => ?_
            by_cases q : a = d
            · subst q
              rw [upd_same] at h ⊢
              exact h
            · rw [upd_ne q] at h
              cases h
          · have := length_putK kvs [.inl (i : Int), .inl (j : Int)] (.int v)
            omega
      · obtain ⟨kvs, b9, b10, b11, b12, rfl, w1, tb, kl⟩ := pv
        exact ⟨kvs, _, _, _, _, _, rfl, w1, tb.row, by rw [Nat.add_mul]; omega⟩
    · obtain ⟨kvs, b8, b9, b10, b11, b12, rfl, w1, tb, kl⟩ := pv
      refine ⟨_, rfl, sz2, fun q hq => ?_⟩
      have w2 := w1.mono (Same.new hq (o := .tup [.int 0, .int 0]))
      refine ⟨d, _, rfl, tb 0 0 (Nat.zero_le _) (Nat.zero_le _) (.inl (by omega)) ▸ DGet.t (k := [.inl 0, .inl 0]) (w2.m _ _ upd_same) upd_same, ?_⟩
      dsimp only
      rw [bak_dist]
      exact kk _ w2.b
end
end Mw
/-! W23: what the law takes to be meant; small tests -/
namespace Mw
open PySem PySem.Spec PyProof.Rows L2
theorem eqV_int (a b : Int) : eqV (.int a) (.int b) = decide (a = b) := rfl
theorem ints_flat (l : List Int) : (l.map V.int).all flatV = true := by
  induction l with
  | nil => rfl
  | cons c r ih => rw [List.map_cons, List.all_cons, ih]; rfl
/-- the first place of the least -/
theorem first_min : ∀ (l : List Int) (m : Int), m ∈ l → (∀ y ∈ l, m ≤ y) → ∃ i : Nat, l[i]? = some m ∧ ∀ (j : Nat) (y : Int), j < i → l[j]? = some y → m < y
  | a :: l, m, hm, hl => by
    by_cases q : a = m
    · exact ⟨0, by rw [q]; rfl, fun j y h => absurd h (Nat.not_lt_zero _)⟩
    · obtain ⟨i, h1, h2⟩ := first_min l m ((List.mem_cons.mp hm).resolve_left (Ne.symm q)) fun y hy => hl y (List.mem_cons_of_mem _ hy)
      refine ⟨i + 1, h1, fun j y hj e => ?_⟩
      cases j with
      | zero =>
        have e := Option.some.inj e
        have := hl a (List.mem_cons_self ..)
        omega
      | succ j => exact h2 j y (by omega) e
section
variable {P : Program} {w : World} {K : PySem.W.Frag} {mg : Str → Option Value} {base : Heap}
def N__law_totals : List Str := ["_law_case_here", "_law_text_here", "_law_word", "_law_own"]
theorem sc__law_totals : FnScope N__law_totals ["_law_case_here", "_law_text_here"] (defScope (top 59)) := ⟨rfl, rfl, rfl, by decide +kernel, rfl, by decide +kernel, by decide +kernel⟩
def spTotals : Sp := fun vs H Q _ => ∃ (a : Addr) (cs : List Nat) (s : Sh) (x : List Nat), vs = [.ref a, .str (tx x)] ∧ ShAt H a cs s ∧ ShOk s ∧ x.length ≤ 1000 ∧ ∀ l H', Same H H' → H l = none → H' l = some (.lst ((s.es.map (tot s.p x)).map V.int)) → Q (.ref l) H'
theorem c__law_totals (T : Tx P w K mg) : Cl P w K mg base CX0 2 "_law_totals" spTotals := by
  have S := sc__law_totals
  have c__law_price := @c__law_price P w K mg base T
  refine mkCl0 T.d__law_totals T.gf__law_totals S (fun _ _ _ _ _ _ us hl => match us, hl with | [_, _], _ => rfl) (fun vs H Q E h => ?_) (fun cdv A outer s H vs Q E hr h => ?_)
  · obtain ⟨a, cs, s, x, rfl, _⟩ := h
    rfl
  · obtain ⟨a, cs, sh, x, rfl, ⟨lt, la, ta, ea, refs, h1, h2, h3, h4, h5⟩, ok, lx, k⟩ := h
    have hu := hu_of hr
    refine ⟨_, (pss_one (ps_ret (pe_lc (own := [("_law_word", 2), ("_law_own", 3)]) (g := gTup K 2 (gCons (gName 2) (gCons (gName 3) gNil))) (tt := tYes) (by rfl) S.nd (pi_list (pe_dget hu (pv 0) pe_str (fun _ _ => rfl))) (blkOk_by (own := [("_law_word", 2), ("_law_own", 3)]) (N := N__law_totals) (sc := defScope (top 59)) (by decide +kernel)) (fun _ _ _ _ _ => (pg_tup rfl (pgs_cons (pg_name (i := 2) S.nd rfl (Or.inl rfl)) (pgs_cons (pg_name (i := 3) S.nd rfl (Or.inl rfl)) pgs_nil)))) (fun _ _ _ _ _ => pts_nil) (fun _ _ _ _ _ => (pe_op op_add (pe_f c__law_price hr (by decide) rfl pass0 (pa_cons (pe_dget hu (pv 0) pe_str (fun _ _ => rfl)) (pa_cons (pv 2) (pa_cons (pv 1) pa_nil)))) (pv 3)))))), ?_⟩
    refine ⟨_, rfl, a, _, rfl, sh_entries ▸ DGet.k (k := .inr "entries") h1, ea, rfl, ⟨refs, SqL.of h4⟩, fun D hD => ?_⟩
    have rl := h5.length
    refine lc_map sh.es (fun e => V.int (tot sh.p x e)) (rl ▸ walk_list (xs := refs)) (by have := ok.es.len; omega) hD (fun H' s => SqL.of (s _ _ h4)) (fun i e v H1 H2 Qe he s1 y kq => ?_) (fun H1 s1 hl => ?_)
    · obtain ⟨rfl, hv⟩ := y
      obtain ⟨e', he', ⟨ya, rfl, hya⟩⟩ := paired_at h5 hv
      obtain rfl : e = e' := by
        rw [he] at he'
        exact Option.some.inj he'
      have eok := ok.es.all e (List.mem_of_getElem? he)
      refine ⟨ya, _, rfl, SqT.of (s1 _ _ hya), rfl, _, _, rfl, _, _, rfl, rfl, rfl, _, rfl, a, .ref ta, rfl, sh_prices ▸ DGet.k (k := .inr "prices") (s1 _ _ h1), _, rfl, _, rfl, ta, sh.p, e.1, x, rfl, s1 _ _ h3, Nat.le_trans eok.l5 (by decide), lx, fun H3 s3 => ?_⟩
      exact ⟨_, rfl, _, _, rfl, rfl, kq _ s3⟩
    · refine k D H1 s1 hD ?_
      rw [List.map_map]
      exact hl
def N__law_meant : List Str := ["_law_case_here", "_law_text_here", "_law_totals_here"]
theorem sc__law_meant : FnScope N__law_meant ["_law_case_here", "_law_text_here"] (defScope (top 60)) := ⟨rfl, rfl, rfl, by decide +kernel, rfl, by decide +kernel, by decide +kernel⟩
def spMeant : Sp := fun vs H Q _ => ∃ (a : Addr) (cs : List Nat) (s : Sh) (x : List Nat), vs = [.ref a, .str (tx x)] ∧ ShAt H a cs s ∧ ShOk s ∧ x.length ≤ 1000 ∧ ∀ o H', Same H H' → MeantIs s.p x s.es o → Q (moV o) H'
theorem c__law_meant (T : Tx P w K mg) : Cl P w K mg base CX0 3 "_law_meant" spMeant := by
  have S := sc__law_meant
  have c__law_totals := @c__law_totals P w K mg base T
  refine mkCl0 T.d__law_meant T.gf__law_meant S (fun _ _ _ _ _ _ us hl => match us, hl with | [_, _], _ => rfl) (fun vs H Q E h => ?_) (fun cdv A outer s H vs Q E hr h => ?_)
  · obtain ⟨a, cs, s, x, rfl, _⟩ := h
    rfl
  · obtain ⟨a, cs, sh, x, rfl, sa, ok, lx, k⟩ := h
    have hu := hu_of hr
    refine ⟨_, (pss_cons (ps_set (i := 2) S.nd rfl (Or.inl rfl) (pe_f c__law_totals hr (by decide) rfl pass0 (pa_cons (pv 0) (pa_cons (pv 1) pa_nil))))
    (pss_one (ps_ret (pe_ifExp (pt_cmpR (op_neD hr.units) (pv 2) (pe_lst pa_nil) (nomark _)) (pe_ix ix_tup (pe_ix ix_list (pe_dget hu (pv 0) pe_str (fun _ _ => rfl)) (pe_bm PySem.F.plainAttrs_list PySem.F.slot_list_index PySem.F.type_list_index mt_index (pv 2) (pa_cons (pe_callB (cr_min rfl) rfl T.n_min bt_min (pa_cons (pv 2) pa_nil)) pa_nil)) (fun _ _ => rfl)) pe_int (fun _ _ => rfl)) pe_non)))), ?_⟩
    refine ⟨_, rfl, _, rfl, a, cs, sh, x, rfl, sa, ok, lx, fun l H1 s1 hl0 hl => ?_⟩
    refine ⟨_, rfl, sz0, fun e he => ?_⟩
    have s2 := Same.new he (o := .lst [])
    have hl2 := s2 _ _ hl
    refine ⟨.list ((sh.es.map (tot sh.p x)).map PyData.int), .list [], .lst (SqL.of hl2) (dp_ints _), .lst (SqL.of upd_same) .nil, PySem.W.shaped_ints _, by decide, ?_⟩
    rw [eqv_ints_nil]
    refine ⟨_, rfl, ?_⟩
    by_cases q : sh.es = []
    · rw [decide_eq_true (by rw [q]; rfl)]
      exact iteF (k none _ (s1.trans s2) (.inl ⟨q, rfl⟩))
    · have q2 : sh.es.map (tot sh.p x) ≠ [] := fun z => q (by simpa using z)
      rw [decide_eq_false q2]
      obtain ⟨_, la, ta, ea, refs, h1, h2, h3, h4, h5⟩ := sa.mono (s1.trans s2)
      refine iteT ⟨_, rfl, a, _, rfl, sh_entries ▸ DGet.k (k := .inr "entries") h1, _, rfl, .inl ⟨rfl, _, .inl (.inl hl2)⟩, _, rfl, l, _, rfl, SqL.of hl2, List.length_pos_iff.mpr q2, fun m hm hmin => ?_⟩
      obtain ⟨i, hi, hf⟩ := first_min _ m hm hmin
      obtain ⟨ei, hei, hti⟩ : ∃ ei, sh.es[i]? = some ei ∧ tot sh.p x ei = m := by
        rw [List.getElem?_map] at hi
        cases qq : sh.es[i]? with
        | none => rw [qq] at hi; cases hi
        | some ei => rw [qq] at hi; exact ⟨ei, rfl, Option.some.inj hi⟩
      refine ⟨l, _, _, i, .int m, rfl, rfl, SqL.of hl2, rfl, ints_flat _, by rw [List.getElem?_map, hi]; rfl, by rw [eqV_int]; simp, fun j z hj hz => ?_, ?_⟩
      · rw [List.getElem?_map] at hz
        cases qq : (sh.es.map (tot sh.p x))[j]? with
        | none => rw [qq] at hz; cases hz
        | some y =>
          rw [qq] at hz
          obtain rfl := Option.some.inj hz
          have := hf j y hj qq
          rw [eqV_int]
          exact decide_eq_false (by omega)
      · have il : i < refs.length := by
          rw [h5.length]
          exact (List.getElem?_eq_some_iff.mp hei).1
        obtain ⟨e', he', ⟨ya, hr', hya⟩⟩ := paired_at h5 (show refs[i]? = some refs[i] by simp [il])
        obtain rfl : ei = e' := by
          rw [hei] at he'
          exact Option.some.inj he'
        refine ⟨ea, _, _, refs[i], rfl, rfl, SqL.of h4, atI_nat (by simp [il]), ?_⟩
        refine ⟨ya, _, _, _, hr', rfl, SqT.of hya, atI_nat (j := 0) rfl, ?_⟩
        refine k (some ei.1) _ (s1.trans s2) (.inr ⟨i, ei, hei, rfl, fun j f hj => ?_, fun j f hj hf' => ?_⟩)
        · rw [hti]
          exact hmin _ (List.mem_map_of_mem (List.mem_of_getElem? hj))
        · rw [hti]
          exact hf j _ hj (by rw [List.getElem?_map, hf']; rfl)
def N__law_is_int : List Str := ["_law_worth", "_law_least", "_law_most"]
theorem sc__law_is_int : FnScope N__law_is_int ["_law_worth", "_law_least", "_law_most"] (defScope (top 61)) := ⟨rfl, rfl, rfl, by decide +kernel, rfl, by decide +kernel, by decide +kernel⟩
def spLawInt : Sp := fun vs H Q _ => ∃ (i lo hi : Int), vs = [.int i, .int lo, .int hi] ∧ lo ≤ i ∧ i ≤ hi ∧ Q (.bl true) H
theorem c__law_is_int (T : Tx P w K mg) : Cl P w K mg base CX0 1 "_law_is_int" spLawInt := by
  have S := sc__law_is_int
  refine mkCl0 T.d__law_is_int T.gf__law_is_int S (fun _ _ _ _ _ _ us hl => match us, hl with | [_, _, _], _ => rfl) (fun vs H Q E h => ?_) (fun cdv A outer s H vs Q E hr h => ?_)
  · obtain ⟨i, lo, hi, rfl, _⟩ := h
    rfl
  · obtain ⟨i, lo, hi, rfl, a1, a2, k⟩ := h
    refine ⟨_, (pss_one (ps_ret (pe_and (pe_callB call_isi rfl T.n_isinstance bt_isinstance (pa_cons (pv 0) (pa_cons (pe_bltn (v := .ty "int") rfl T.n_int bt_int rfl) pa_nil))) (pe_and (pe_not (pe_callB call_isi rfl T.n_isinstance bt_isinstance (pa_cons (pv 0) (pa_cons (pe_bltn (v := .ty "bool") rfl T.n_bool bt_bool rfl) pa_nil)))) (pe_one (pe_chain op_le op_le (pv 1) (pv 0) (pv 2))))))), ?_⟩
    refine ⟨_, rfl, _, _, _, _, true, rfl, .ty _, .base (.int _), kit_ty (by decide +kernel), _, rfl, iteT ?_⟩
    refine ⟨_, rfl, _, _, _, _, false, rfl, .ty _, .base (.int _), kit_ty (by decide +kernel), _, rfl, _, rfl, iteT ?_⟩
    refine ⟨_, rfl, _, rfl, _, _, rfl, rfl, _, rfl, ?_⟩
    rw [decide_eq_true a1]
    refine iteT ⟨_, rfl, _, _, rfl, rfl, ?_⟩
    dsimp only
    rw [decide_eq_true a2]
    exact k
def N__law_is_text : List Str := ["_law_worth", "_law_sign"]
theorem sc__law_is_text : FnScope N__law_is_text ["_law_worth"] (defScope (top 62)) := ⟨rfl, rfl, rfl, by decide +kernel, rfl, by decide +kernel, by decide +kernel⟩
def spLawText : Sp := fun vs H Q _ => ∃ (x : List Nat), vs = [.str (tx x)] ∧ AzL x ∧ ∀ H', Same H H' → Q (.bl true) H'
theorem c__law_is_text (T : Tx P w K mg) : Cl P w K mg base CX0 1 "_law_is_text" spLawText := by
  have S := sc__law_is_text
  refine mkCl0 T.d__law_is_text T.gf__law_is_text S (fun _ _ _ _ _ _ us hl => match us, hl with | [_], _ => rfl) (fun vs H Q E h => ?_) (fun cdv A outer s H vs Q E hr h => ?_)
  · obtain ⟨x, rfl, _⟩ := h
    rfl
  · obtain ⟨x, rfl, az, k⟩ := h
    refine ⟨_, (pss_cons (ps_if (pt_not (pt_val (pe_callB call_isi rfl T.n_isinstance bt_isinstance (pa_cons (pv 0) (pa_cons (pe_bltn (v := .ty "str") rfl T.n_str bt_str rfl) pa_nil))))) (pss_one (ps_ret pe_bl)) pss_nil)
    (pss_one (ps_ret (pe_cmpR (op_eqD hr.units) (pe_lc (own := [("_law_sign", 1)]) (g := gName 1) (by rfl) S.nd (pi_str (pv 0)) (blkOk_by (own := [("_law_sign", 1)]) (N := N__law_is_text) (sc := defScope (top 62)) (by decide +kernel)) (fun _ _ _ _ _ => (pg_name (i := 1) S.nd rfl (Or.inl rfl))) (fun _ _ _ _ _ => (pts_one (pt_cmpR op_notIn_sign (pv 1) pe_str rfl))) (fun _ _ _ _ _ => (pv 1))) (pe_lst pa_nil) (nomark _))))), ?_⟩
    refine ⟨_, rfl, _, _, _, _, true, rfl, .ty _, .base (.str _), kit_ty (by decide +kernel), _, rfl, iteF ?_⟩
    refine ⟨_, rfl, tx x, rfl, fun D hD => ?_⟩
    refine lc_pre (walk_strL _) (fun _ => []) rfl (fun _ _ => small_line (Nat.zero_le _)) hD (fun _ _ => trivial) (fun i v H1 H2 Qe Qn hi s1 y h1 h2 => ?_) (fun H1 s1 h1 => ?_)
    · obtain ⟨rfl, c, hc, rfl⟩ := y
      refine ⟨rfl, _, rfl, c, _, rfl, rfl, _, rfl, ?_⟩
      rw [decide_eq_true (in_az (az.1 c (List.mem_of_getElem? hc)))]
      exact iteF (h2 _ rfl (Same.refl _))
    · refine ⟨sz0, fun e he => ?_⟩
      have s2 := Same.new he (o := .lst [])
      refine ⟨.list [], .list [], .lst (SqL.of (s2 _ _ h1)) .nil, .lst (SqL.of upd_same) .nil, by decide, by decide, ?_⟩
      exact k _ (s1.trans s2)
end
end Mw
/-! W24: acts drawn -/
namespace Mw
open PySem PySem.Spec PyProof.Rows L2
/-- what may be drawn: a deed that is done, or one that is refused -/
def Drawn (s : Sh) (d : Deed) : Prop := (∃ s', Stepd s d s') ∨ Refused s d
/-- no more than four letters are pressed at once -/
def Small : Deed → Prop
  | .press y => y.length ≤ 4
  | _ => True
theorem Stepd.grow {s s' : Sh} {d : Deed} (st : Stepd s d s') (h : Small d) : s'.x.length ≤ s.x.length + 4 := by
  cases st with
  | press _ _ =>
    have h' : _ ≤ 4 := h
    rw [List.length_append]
    exact Nat.add_le_add_left h' _
  | back _ _ =>
    dsimp only
    rw [List.length_take]
    omega
  | _ => exact Nat.le_add_right _ _
theorem same_upd {H H1 : Hp} {D : Addr} {o : HO} (hD : H D = none) (s : Same H H1) (h : H1 D = some o) : Same (upd H D o) H1 := fun a u e => by
  by_cases q : a = D
  · subst q
    rw [upd_same] at e
    rw [h, e]
  · rw [upd_ne q] at e
    exact s _ _ e
theorem sz8 {a b c d e f g h : V} : [a, b, c, d, e, f, g, h].length ≤ sizeLine := (by decide : 8 ≤ sizeLine)
section
variable {P : Program} {w : World} {K : PySem.W.Frag} {mg : Str → Option Value} {base : Heap}
theorem dp_words {H : Hp} (es : List Ent) : DpAll K H (es.map wordV) (es.map fun e => wd e.1) := by
  induction es with
  | nil => exact .nil
  | cons e r ih => exact .cons (.str _) ih
theorem shaped_words {es : List Ent} (h : ∀ e ∈ es, EntOk e) : SeqAt.shaped (.list (es.map fun e => wd e.1)) = true := by
  refine shaped_of ?_ ?_
  · rw [PyData.canLay0]
    exact lay_map fun e he => lay_wd fun c hc => ((h e he).az c hc).2
  · rw [PyData.depth]
    have : PyData.depthAll (es.map fun e => wd e.1) ≤ 1 := depth_map fun t _ => by
      unfold wd
      simp [PyData.depth]
    omega
def N__law_act : List Str := ["_law_draw", "_law_sheet_here", "_law_names", "_law_way", "_law_entry", "_law_fresh"]
theorem sc__law_act : FnScope N__law_act ["_law_draw", "_law_sheet_here"] (defScope (top 64)) := ⟨rfl, rfl, rfl, by decide +kernel, rfl, by decide +kernel, by decide +kernel⟩
def spAct : Sp := fun vs H Q _ => ∃ (x : Dx) (B M : Hp) (a : Addr) (cs : List Nat) (s : Sh), vs = [.ref x.d, .ref a] ∧ Drw x B M H ∧ ShAt B a cs s ∧ ShOk s ∧ s.x.length ≤ 396 ∧ ∀ B' ad d H', Same B B' → Drw x B' M H' → B' ad = some (.tup d.vals) → Drawn s d → Small d → Q (.ref ad) H'
theorem learn_drawn {s : Sh} {e : Ent} (ok : ShOk s) (he : EntOk e) : Drawn s (.learn e) := by
  obtain ⟨es, p, x⟩ := s
  by_cases q : e.1 ∈ es.map Prod.fst
  · obtain ⟨i, hi⟩ := List.getElem?_of_mem q
    exact .inl ⟨_, .old hi he⟩
  · have := ok.es.len
    dsimp only at this
    by_cases q4 : es.length = 4
    · exact .inr (.full q he q4)
    · exact .inl ⟨_, .new q he (by omega)⟩
theorem c__law_act (T : Tx P w K mg) : Cl P w K mg base CX0 5 "_law_act" spAct := by
  have S := sc__law_act
  have c__law_take := @c__law_take P w K mg base T
  have c__law_pick := @c__law_pick P w K mg base T
  have c__law_string := @c__law_string P w K mg base T
  have c__law_text := @c__law_text P w K mg base T
  have c__law_prices := @c__law_prices P w K mg base T
  refine mkCl0 T.d__law_act T.gf__law_act S (fun _ _ _ _ _ _ us hl => match us, hl with | [_, _], _ => rfl) (fun vs H Q E h => ?_) (fun cdv A outer s H vs Q E hr h => ?_)
  · obtain ⟨x, B, M, a, cs, s, rfl, _⟩ := h
    rfl
  · obtain ⟨x, B, M, a, cs, sh, rfl, dw, sa, ok, l396, k⟩ := h
    have hu := hu_of hr
    refine ⟨_, (pss_cons (ps_par (i := 2) (j := 3) (by rfl) S.nd rfl rfl (by decide) rfl rfl (pa_cons (pe_lc (own := [("_law_entry", 4)]) (g := gName 4) (tt := tYes) (by rfl) S.nd (pi_list (pe_dget hu (pv 1) pe_str (fun _ _ => rfl))) (blkOk_by (own := [("_law_entry", 4)]) (N := N__law_act) (sc := defScope (top 64)) (by decide +kernel)) (fun _ _ _ _ _ => (pg_name (i := 4) S.nd rfl (Or.inl rfl))) (fun _ _ _ _ _ => pts_nil) (fun _ _ _ _ _ => (pe_ix (r := rIxT K) ix_tup (pv 4) pe_int (fun _ _ => rfl)))) (pa_cons (pe_f c__law_take hr (by decide) rfl pass0 (pa_cons (pv 0) (pa_cons pe_int pa_nil))) pa_nil)) (by rfl))
    (pss_cons (ps_if (pt_cmpR op_lt (pv 3) pe_int (nomark _)) (pss_one (ps_ret (pe_tup (pa_cons pe_str (pa_cons (pe_f c__law_text hr (by decide) rfl pass0 (pa_cons (pv 0) (pa_cons (pv 1) (pa_cons pe_int pa_nil)))) pa_nil))))) pss_nil)
    (pss_cons (ps_if (PW.pt (pw_and (pt_cmpR op_eq (pv 3) pe_int (nomark _)) (pw_and1 (pt_cmpR op_ne (pe_dget hu (pv 1) pe_str (fun _ _ => rfl)) pe_str (nomark _))))) (pss_one (ps_ret (pe_tup (pa_cons pe_str (pa_cons (pe_op op_add pe_int (pe_f c__law_take hr (by decide) rfl pass0 (pa_cons (pv 0) (pa_cons (pe_callB call_len_str rfl T.n_len bt_len (pa_cons (pe_dget hu (pv 1) pe_str (fun _ _ => rfl)) pa_nil)) pa_nil)))) pa_nil))))) pss_nil)
    (pss_cons (ps_if (pt_cmpR op_lt (pv 3) pe_int (nomark _)) (pss_cons (ps_set (i := 5) S.nd rfl (Or.inl rfl) (pe_f c__law_string hr (by decide) rfl pass0 (pa_cons (pv 0) (pa_cons (pe_dget hu (pv 1) pe_str (fun _ _ => rfl)) (pa_cons pe_int (pa_cons pe_int pa_nil))))))
    (pss_one (ps_ret (pe_tup (pa_cons pe_str (pa_cons (pe_f c__law_pick hr (by decide) rfl pass0 (pa_cons (pv 0) (pa_cons (pe_op op_cat (pv 2) (pe_lst (pa_cons (pv 5) (pa_cons (pv 5) pa_nil)))) pa_nil))) (pa_cons (pe_f c__law_pick hr (by decide) rfl pass0 (pa_cons (pv 0) (pa_cons (pe_lst (pa_cons pe_int (pa_cons pe_int (pa_cons pe_int (pa_cons pe_int (pa_cons (pe_f c__law_take hr (by decide) rfl pass0 (pa_cons (pv 0) (pa_cons pe_int pa_nil))) pa_nil)))))) pa_nil))) pa_nil))))))) pss_nil)
    (pss_cons (ps_if (PW.pt (pw_and (pt_cmpR op_eq (pv 3) pe_int (nomark _)) (pw_and1 (pt_cmpR (op_neD hr.units) (pv 2) (pe_lst pa_nil) (nomark _))))) (pss_one (ps_ret (pe_tup (pa_cons pe_str (pa_cons (pe_f c__law_pick hr (by decide) rfl pass0 (pa_cons (pv 0) (pa_cons (pv 2) pa_nil))) pa_nil))))) pss_nil)
    (pss_one (ps_ret (pe_op op_catA (pe_tup (pa_cons pe_str pa_nil)) (pe_f c__law_prices hr (by decide) rfl pass0 (pa_cons (pv 0) pa_nil)))))))))), ?_⟩
    obtain ⟨lt, la, ta, ea, refs, h1, h2, h3, h4, h5⟩ := id sa
    have h4H := dw.b _ _ h4
    refine ⟨_, rfl, a, _, rfl, sh_entries ▸ DGet.k (k := .inr "entries") (dw.b _ _ h1), ea, rfl, ⟨refs, SqL.of h4H⟩, fun D hD => ?_⟩
    have rl := h5.length
    have l4 := ok.es.len
    refine lc_map sh.es wordV (rl ▸ walk_list (xs := refs)) (by omega) hD (fun H' s => SqL.of (s _ _ h4H)) (fun i a v H1 H2 Qe ha s1 y kk => ?_) (fun H1 s1 hD1 => ?_)
    · obtain ⟨rfl, hv⟩ := y
      obtain ⟨e, he, ⟨ya, rfl, hya⟩⟩ := paired_at h5 hv
      obtain rfl : a = e := by
        rw [ha] at he
        exact Option.some.inj he
      exact ⟨rfl, _, rfl, ya, _, _, _, rfl, rfl, SqT.of (s1 _ _ (dw.b _ _ hya)), atI_nat (j := 0) rfl, kk _ (Same.refl _)⟩
    have MD : M D = none := dw.fm hD
    have w1 := (dw.newM hD (o := .lst (sh.es.map wordV))).mono (same_upd hD s1 hD1)
    have fin : ∀ {B' H' ad d}, Same B B' → Drw x B' (upd M D (.lst (sh.es.map wordV))) H' → H' ad = none → Small d → Drawn sh d → Q (.ref ad) (upd H' ad (.tup d.vals)) := fun {B' H' ad d} sB w' h sm dr =>
      k _ ad d _ (sB.trans (w'.sb h)) ((w'.off MD).new h) upd_same dr sm
    refine ⟨_, rfl, x, B, _, 10, rfl, w1, by decide, by decide, fun f H2 f0 f1 w2 => ⟨_, _, rfl, ?_⟩⟩
    have b2 := w2.b
    refine ⟨_, rfl, _, _, rfl, rfl, _, rfl, ite2 (fun q => ?_) (fun q => ?_)⟩
    · refine ⟨_, rfl, _, rfl, x, B, _, a, cs, 4, rfl, w2, sa.let, lt.az, lt.l10, by decide, fun y H3 w3 ay ly => ⟨sz2, fun ad had => ?_⟩⟩
      refine fin (d := .press y) (Same.refl _) w3 had ly (.inl ?_)
      obtain ⟨es, p, sx⟩ := sh
      exact ⟨_, .press ⟨ay, by omega⟩ (by dsimp only at l396; omega)⟩
    refine ⟨_, rfl, rfl, _, rfl, ?_⟩
    have e4 : decide (V.int f = V.int 4) = decide (f = 4) := decide_eq_decide.mpr (by simp)
    have ex : decide (V.str (tx sh.x) = V.str (PySem.Str.ofString "")) = decide (sh.x = []) := decide_eq_decide.mpr (by rw [tx_nil, tx_V])
    rw [e4]
    rcases (show (f = 4 ∧ sh.x ≠ []) ∨ (f = 4 ∧ sh.x = []) ∨ f ≠ 4 by
      by_cases a : f = 4
      · by_cases b : sh.x = []
        · exact .inr (.inl ⟨a, b⟩)
        · exact .inl ⟨a, b⟩
      · exact .inr (.inr a)) with ⟨c1, c2⟩ | ⟨c1, c2⟩ | c1
    case inl =>
      rw [decide_eq_true c1]
      refine iteT ⟨_, rfl, a, _, rfl, sh_text ▸ DGet.k (k := .inr "text") (b2 _ _ h1), rfl, _, rfl, ?_⟩
      rw [ex, decide_eq_false c2]
      have l0 : 0 < sh.x.length := List.length_pos_iff.mpr c2
      refine iteT ⟨_, rfl, _, rfl, a, _, rfl, sh_text ▸ DGet.k (k := .inr "text") (b2 _ _ h1), _, rfl, ?_, x, B, _, _, rfl, w2, by rw [tx_len]; omega, by rw [tx_len]; omega, fun g H3 g0 g1 w3 => ⟨_, _, rfl, rfl, sz2, fun ad had => ?_⟩⟩
      · rw [tx_len]
        exact Nat.le_of_lt (small_line (by omega))
      obtain ⟨n, rfl⟩ := Int.eq_ofNat_of_zero_le g0
      rw [tx_len] at g1
      dsimp only
      rw [show (1 : Int) + (n : Nat) = ((1 + n : Nat) : Int) by omega]
      refine fin (d := .back ((1 + n : Nat) : Int)) (Same.refl _) w3 had trivial (.inl ?_)
      obtain ⟨es, p, sx⟩ := sh
      exact ⟨_, .back (by omega) (by dsimp only at g1; omega)⟩
    case' inr.inl =>
      rw [decide_eq_true c1]
      refine iteT ⟨_, rfl, a, _, rfl, sh_text ▸ DGet.k (k := .inr "text") (b2 _ _ h1), rfl, _, rfl, ?_⟩
      rw [ex, decide_eq_true c2]
      refine iteF ?_
    case' inr.inr =>
      rw [decide_eq_false c1]
      refine iteF (iteF ?_)
    all_goals
      refine ⟨_, rfl, _, _, rfl, rfl, _, rfl, ite2 (fun q => ?_) (fun q => ?_)⟩
      · refine ⟨_, rfl, _, rfl, a, _, rfl, sh_letters ▸ DGet.k (k := .inr "letters") (b2 _ _ h1), x, B, _, la, cs, 1, 5, rfl, w2, .inl h2, lt.l0, by have := lt.l10; omega, by decide, by decide, fun y H3 w3 yc y1 y5 => ?_⟩
        have yok : ∀ o : Int, 0 ≤ o → o ≤ 999 → EntOk (y, o) := fun o o0 o9 => ⟨fun c hc => lt.az c (yc c hc), y1, y5, o0, o9⟩
        refine ⟨_, rfl, _, rfl, _, rfl, _, rfl, sz2, fun t ht => ?_⟩
        have w4 := w3.mono (Same.new ht (o := .lst [.str (tx y), .str (tx y)]))
        refine ⟨D, t, _, _, rfl, rfl, w4.m _ _ upd_same, upd_same, Nat.le_of_lt (small_line (by rw [List.length_map]; simp; omega)), fun r hrr => ?_⟩
        have w5 := w4.newM hrr (o := .lst (sh.es.map wordV ++ [.str (tx y), .str (tx y)]))
        have Mr := w4.fm hrr
        refine ⟨x, B, _, r, _, rfl, w5, .inr upd_same, by simp, by simp; omega, fun v H4 hv w6 => ?_⟩
        have w7 := w6.off Mr
        refine ⟨_, rfl, _, rfl, x, B, _, 20, rfl, w7, by decide, by decide, fun g H5 g0 g1 w8 => ⟨sz5, fun l hl => ?_⟩⟩
        have w9 := w8.newM hl (o := .lst [.int 0, .int 1, .int 2, .int 999, .int g])
        have Ml := w8.fm hl
        refine ⟨x, B, _, l, _, rfl, w9, .inr upd_same, (by decide : 0 < 5), (by decide : 5 ≤ 1000), fun v2 H6 hv2 w10 => ⟨sz3, fun ad had => ?_⟩⟩
        obtain ⟨o, rfl, o0, o9⟩ : ∃ o : Int, v2 = .int o ∧ 0 ≤ o ∧ o ≤ 999 := by
          simp only [List.mem_cons, List.not_mem_nil, or_false] at hv2
          rcases hv2 with rfl | rfl | rfl | rfl | rfl
          all_goals exact ⟨_, rfl, by omega, by omega⟩
        obtain ⟨z, rfl, zok⟩ : ∃ z : List Nat, v = .str (tx z) ∧ EntOk (z, o) := by
          rcases List.mem_append.mp hv with h | h
          · obtain ⟨e, he, rfl⟩ := List.mem_map.mp h
            have := ok.es.all e he
            exact ⟨e.1, rfl, this.az, this.l1, this.l5, o0, o9⟩
          · exact ⟨y, by simpa using h, yok o o0 o9⟩
        exact fin (d := .learn (z, o)) (Same.refl _) (w10.off Ml) had trivial (learn_drawn ok zok)
      refine ⟨_, rfl, rfl, _, rfl, ?_⟩
      have e7 : decide (V.int f = V.int 7) = decide (f = 7) := decide_eq_decide.mpr (by simp)
      rw [e7]
      rcases (show (f = 7 ∧ sh.es ≠ []) ∨ (f = 7 ∧ sh.es = []) ∨ f ≠ 7 by
        by_cases a : f = 7
        · by_cases b : sh.es = []
          · exact .inr (.inl ⟨a, b⟩)
          · exact .inl ⟨a, b⟩
        · exact .inr (.inr a)) with ⟨d1, d2⟩ | ⟨d1, d2⟩ | d1
      case inl =>
        rw [decide_eq_true d1]
        refine iteT ⟨_, rfl, sz0, fun e he => ?_⟩
        have w4 := w2.mono (Same.new he (o := .lst []))
        refine ⟨.list (sh.es.map fun e => wd e.1), .list [], .lst (SqL.of (w4.m _ _ upd_same)) (dp_words _), .lst (SqL.of upd_same) .nil, shaped_words ok.es.all, by decide, ?_⟩
        rw [eqv_nil, decide_eq_false (fun z => d2 (by simpa using z))]
        refine ⟨_, rfl, iteT ⟨_, rfl, _, rfl, x, B, _, D, _, rfl, w4, .inr upd_same, by rw [List.length_map]; exact List.length_pos_iff.mpr d2, by rw [List.length_map]; omega, fun v H4 hv w6 => ⟨sz2, fun ad had => ?_⟩⟩⟩
        obtain ⟨e, he, rfl⟩ := List.mem_map.mp hv
        refine fin (d := .forget e.1) (Same.refl _) w6 had trivial (.inl ?_)
        obtain ⟨es, p, sx⟩ := sh
        obtain ⟨i, hi⟩ := List.getElem?_of_mem (List.mem_map_of_mem (f := Prod.fst) he)
        exact ⟨_, .forget hi⟩
      case' inr.inl =>
        rw [decide_eq_true d1]
        refine iteT ⟨_, rfl, sz0, fun e he => ?_⟩
        have w4 := w2.mono (Same.new he (o := .lst []))
        refine ⟨.list (sh.es.map fun e => wd e.1), .list [], .lst (SqL.of (w4.m _ _ upd_same)) (dp_words _), .lst (SqL.of upd_same) .nil, shaped_words ok.es.all, by decide, ?_⟩
        rw [eqv_nil, decide_eq_true (by rw [d2]; rfl)]
        refine ⟨_, rfl, iteF ?_⟩
      case' inr.inr =>
        rw [decide_eq_false d1]
        have w4 := w2
        refine iteF (iteF ?_)
      all_goals
        refine ⟨sz1, fun t ht => ?_⟩
        have w5 := w4.new ht (o := .tup [.str "slips"])
        refine ⟨_, rfl, x, _, _, rfl, w5, fun B3 tp p H3 s3 w6 hp pok => ?_⟩
        refine ⟨t, tp, _, _, rfl, rfl, SqT.of (w6.b _ _ (s3 _ _ upd_same)), SqT.of (w6.b _ _ hp), (show 1 + 4 ≤ sizeLine by decide), (fun z => nomatch z), (fun _ z => nomatch z), fun _ _ r hrr => ?_⟩
        refine fin (d := .slips p) ((w4.sb ht).trans s3) w6 hrr trivial (.inl ?_)
        obtain ⟨es, p, sx⟩ := sh
        exact ⟨_, .slips pok⟩
end
end Mw
/-! W25: what an act makes of the entries -/
namespace Mw
open PySem PySem.Spec PyProof.Rows L2
section
variable {P : Program} {w : World} {K : PySem.W.Frag} {mg : Str → Option Value} {base : Heap}
theorem slL_of {B M H : Hp} {a : Addr} {xs : List V} {lo hi : Option Int} {Q : VK} (wd : Wd B M H) (h : B a = some (.lst xs)) (k : ∀ t B' H', Same B B' → Wd B' M H' → B' t = some (.lst (cutV xs lo hi)) → Q (.ref t) H') : rSlL K (.ref a) lo hi H Q :=
  ⟨a, xs, rfl, SqL.of (wd.b _ _ h), fun t ht => k t _ _ (wd.sb ht) (wd.new ht) upd_same⟩
theorem catL_of {B M H : Hp} {a b : Addr} {xs ys : List V} {Q : VK} (wd : Wd B M H) (ha : B a = some (.lst xs)) (hb : B b = some (.lst ys)) (hl : xs.length + ys.length ≤ 100000) (k : ∀ t B' H', Same B B' → Wd B' M H' → B' t = some (.lst (xs ++ ys)) → Q (.ref t) H') : rCat (.ref a) (.ref b) H Q :=
  ⟨a, b, xs, ys, rfl, rfl, wd.b _ _ ha, wd.b _ _ hb, Nat.le_of_lt (small_line hl), fun t ht => k t _ _ (wd.sb ht) (wd.new ht) upd_same⟩
def N__law_changed_entries : List Str := ["_law_pairs", "_law_term", "_law_fee", "_law_names", "_law_entry", "_law_at", "_law_is_good"]
theorem sc__law_changed_entries : FnScope N__law_changed_entries ["_law_pairs", "_law_term", "_law_fee"] (defScope (top 65)) := ⟨rfl, rfl, rfl, by decide +kernel, rfl, by decide +kernel, by decide +kernel⟩
def spChg : Sp := fun vs H Q _ => ∃ (B M : Hp) (ea : Addr) (refs : List V) (es : List Ent) (e : Ent), vs = [.ref ea, .str (tx e.1), .int e.2] ∧ Wd B M H ∧ B ea = some (.lst refs) ∧ Paired (EntAt B) refs es ∧ EsOk es ∧ EntOk e ∧
  (∀ i, (es.map Prod.fst)[i]? = some e.1 → ∀ B' b refs' H', Same B B' → Wd B' M H' → B' b = some (.lst refs') → Paired (EntAt B') refs' (setEs es i e) → Q (.ref b) H') ∧
  (¬ e.1 ∈ es.map Prod.fst → es.length < 4 → ∀ B' b refs' H', Same B B' → Wd B' M H' → B' b = some (.lst refs') → Paired (EntAt B') refs' (es ++ [e]) → Q (.ref b) H') ∧
  (¬ e.1 ∈ es.map Prod.fst → es.length = 4 → ∀ H', Same H H' → Q (.int 4) H')
theorem c__law_changed_entries (T : Tx P w K mg) : Cl P w K mg base CX0 2 "_law_changed_entries" spChg := by
  have S := sc__law_changed_entries
  have c__law_is_int := @c__law_is_int P w K mg base T
  have c__law_is_text := @c__law_is_text P w K mg base T
  refine mkCl0 T.d__law_changed_entries T.gf__law_changed_entries S (fun _ _ _ _ _ _ us hl => match us, hl with | [_, _, _], _ => rfl) (fun vs H Q E h => ?_) (fun cdv A outer s H vs Q E hr h => ?_)
  · obtain ⟨B, M, ea, refs, es, e, rfl, _⟩ := h
    rfl
  · obtain ⟨B, M, ea, refs, es, e, rfl, wd, hea, pe, ok, eok, k1, k2, k3⟩ := h
    refine ⟨_, (pss_cons (ps_setLc (i := 3) (own := [("_law_entry", 4)]) (g := gName 4) (tt := tYes) (by rfl) S.nd rfl rfl (sw_true rfl rfl rfl (by decide +kernel)) (pi_list (pv 0)) (blkOk_by (own := [("_law_entry", 4)]) (N := N__law_changed_entries) (sc := defScope (top 65)) (by decide +kernel)) (fun _ _ _ _ _ => (pg_name (i := 4) S.nd rfl (Or.inl rfl))) (fun _ _ _ _ _ => pts_nil) (fun _ _ _ _ _ => (pe_ix (r := rIxT K) ix_tup (pv 4) pe_int (fun _ _ => rfl))))
    (pss_cons (ps_if (PW.pt (pw_and (pt_val (pe_callB call_isi rfl T.n_isinstance bt_isinstance (pa_cons (pv 1) (pa_cons (pe_bltn (v := .ty "str") rfl T.n_str bt_str rfl) pa_nil)))) (pw_and1 (pt_cmpR op_in_seq (pv 1) (pv 3) rfl)))) (pss_cons (ps_set (i := 5) S.nd rfl (Or.inl rfl) (pe_bm PySem.F.plainAttrs_list PySem.F.slot_list_index PySem.F.type_list_index mt_index (pv 3) (pa_cons (pv 1) pa_nil)))
    (pss_one (ps_ret (pe_ifExp (pt_val (pe_f c__law_is_int hr (by decide) rfl pass0 (pa_cons (pv 2) (pa_cons pe_int (pa_cons pe_int pa_nil))))) (pe_op op_cat (pe_op op_cat (pe_slice sl_list (pv 0) po_none (po_some (pv 5))) (pe_lst (pa_cons (pe_tup (pa_cons (pv 1) (pa_cons (pv 2) pa_nil))) pa_nil))) (pe_slice sl_list (pv 0) (po_some (pe_op op_add (pv 5) pe_int)) po_none)) (pv 5))))) pss_nil)
    (pss_cons (ps_set (i := 6) S.nd rfl (Or.inl rfl) (pe_and (pe_f c__law_is_text hr (by decide) rfl pass0 (pa_cons (pv 1) pa_nil)) (pe_and (pe_chain op_le op_le pe_int (pe_callB call_len_str rfl T.n_len bt_len (pa_cons (pv 1) pa_nil)) pe_int) (pe_one (pe_f c__law_is_int hr (by decide) rfl pass0 (pa_cons (pv 2) (pa_cons pe_int (pa_cons pe_int pa_nil))))))))
    (pss_one (ps_ret (pe_ifExp (PW.pt (pw_and (pt_val (pv 6)) (pw_and1 (pt_cmpR op_lt (pe_callB call_len_seq rfl T.n_len bt_len (pa_cons (pv 0) pa_nil)) pe_int (nomark _))))) (pe_op op_cat (pv 0) (pe_lst (pa_cons (pe_tup (pa_cons (pv 1) (pa_cons (pv 2) pa_nil))) pa_nil))) (pe_callB call_len_seq rfl T.n_len bt_len (pa_cons (pv 0) pa_nil)))))))), ?_⟩
    have rl := pe.length
    have l4 := ok.len
    have heaH := wd.b _ _ hea
    refine ⟨_, rfl, ea, rfl, ⟨refs, SqL.of heaH⟩, fun D hD => ?_⟩
    refine lc_map es wordV (rl ▸ walk_list (xs := refs)) (by omega) hD (fun H' s => SqL.of (s _ _ heaH)) (fun i a v H1 H2 Qe ha s1 y kk => ?_) (fun H1 s1 h1 => ?_)
    · obtain ⟨rfl, hv⟩ := y
      obtain ⟨e, he, ⟨ya, rfl, hya⟩⟩ := paired_at pe hv
      obtain rfl : a = e := by
        rw [ha] at he
        exact Option.some.inj he
      exact ⟨rfl, _, rfl, ya, _, _, _, rfl, rfl, SqT.of (s1 _ _ (wd.b _ _ hya)), atI_nat (j := 0) rfl, kk _ (Same.refl _)⟩
    have w1 := wd.mono s1
    refine ⟨_, rfl, _, _, _, _, true, rfl, .ty _, .base (.str _), kit_ty (by decide +kernel), _, rfl, iteT ?_⟩
    refine ⟨_, rfl, _, rfl, D, _, rfl, .inl (SqL.of h1), rfl, words_flat _, _, rfl, ?_⟩
    rw [inV_word]
    by_cases q : e.1 ∈ es.map Prod.fst
    · rw [decide_eq_true q]
      refine iteT ?_
      obtain ⟨i, hi⟩ := List.getElem?_of_mem q
      obtain ⟨f, hf, hex⟩ : ∃ f, es[i]? = some f ∧ f.1 = e.1 := by
        rw [List.getElem?_map] at hi
        cases q : es[i]? with
        | none => rw [q] at hi; cases hi
        | some f => rw [q] at hi; exact ⟨f, rfl, Option.some.inj hi⟩
      refine ⟨_, rfl, .inl ⟨rfl, _, .inl (.inl h1)⟩, _, rfl, D, _, _, i, wordV f, rfl, rfl, SqL.of h1, rfl, words_flat _, by rw [List.getElem?_map, hf]; rfl, by rw [eqV_str, hex]; simp, fun m z hm hz => ?_, ?_⟩
      · rw [List.getElem?_map] at hz
        cases q : es[m]? with
        | none => rw [q] at hz; cases hz
        | some g =>
          rw [q] at hz
          obtain rfl := Option.some.inj hz
          show eqV (.str (tx g.1)) (.str (tx e.1)) = false
          rw [eqV_str]
          refine decide_eq_false fun hf => ?_
          have h2 : (es.map Prod.fst)[m]? = some e.1 := by rw [List.getElem?_map, q, ← hf]; rfl
          have := (List.getElem?_inj (List.getElem?_eq_some_iff.mp h2).1 ok.nd).mp (h2.trans hi.symm)
          omega
      · refine ⟨_, rfl, e.2, 0, 999, rfl, eok.o0, eok.o9, _, rfl, iteT ?_⟩
        refine ⟨_, rfl, _, rfl, _, rfl, slL_of w1 hea fun t1 B2 H2 s2 w2 ht1 => ?_⟩
        rw [cutV_to] at ht1
        refine ⟨_, rfl, _, rfl, sz2, fun na hna => ⟨sz1, fun ta hta => ?_⟩⟩
        have w3 := (w2.new hna (o := .tup [.str (tx e.1), .int e.2])).new hta (o := .lst [.ref na])
        have s3 : Same B2 (upd (upd B2 na (.tup [.str (tx e.1), .int e.2])) ta (.lst [.ref na])) := (w2.sb hna).trans ((w2.new hna).sb hta)
        have hent : EntAt (upd (upd B2 na (.tup [.str (tx e.1), .int e.2])) ta (.lst [.ref na])) (.ref na) e := ⟨na, rfl, (w2.new hna).sb hta _ _ upd_same⟩
        refine catL_of w3 (s3 _ _ ht1) upd_same (by rw [List.length_take]; simp; omega) fun t3 B4 H4 s4 w4 ht3 => ?_
        have s24 := (s2.trans s3).trans s4
        refine ⟨_, rfl, _, rfl, _, _, rfl, rfl, _, rfl, ?_⟩
        dsimp only [tNoPart]
        refine slL_of (lo := some ((i : Int) + 1)) (hi := none) w4 (s24 _ _ hea) fun t5 B5 H5 s5 w5 ht5 => ?_
        rw [show (i : Int) + 1 = ((i + 1 : Nat) : Int) by omega, cutV_from] at ht5
        refine catL_of w5 (s5 _ _ ht3) ht5 (by rw [List.length_append, List.length_take, List.length_drop]; simp; omega) fun t6 B6 H6 s6 w6 ht6 => ?_
        have s26 := (s24.trans s5).trans s6
        exact k1 i hi B6 t6 _ H6 s26 w6 ht6 (Paired.app (Paired.app (Paired.mapP (Paired.take pe i) fun _ _ h => h.mono s26) (.cons (hent.mono ((s4.trans s5).trans s6)) .nil)) (Paired.mapP (Paired.drop pe (i + 1)) fun _ _ h => h.mono s26))
    · rw [decide_eq_false q]
      refine iteF ?_
      refine ⟨_, rfl, e.1, rfl, eok.azl, fun H2 s2 => ?_⟩
      have w2 := w1.mono s2
      refine ⟨_, rfl, iteT ?_⟩
      refine ⟨_, rfl, _, rfl, by rw [tx_len]; exact Nat.le_trans eok.l5 (by decide), _, _, rfl, rfl, _, rfl, ?_⟩
      rw [tx_len, decide_eq_true (show (1 : Int) ≤ (e.1.length : Nat) by have := eok.l1; omega)]
      refine iteT ⟨_, _, rfl, rfl, ?_⟩
      dsimp only
      rw [decide_eq_true (show ((e.1.length : Nat) : Int) ≤ 5 by have := eok.l5; omega)]
      refine ⟨_, rfl, iteT ?_⟩
      refine ⟨_, rfl, e.2, 0, 999, rfl, eok.o0, eok.o9, ?_⟩
      refine ⟨_, rfl, _, rfl, iteT ?_⟩
      refine ⟨_, rfl, ea, refs, rfl, .inl (SqL.of (w2.b _ _ hea)), _, _, rfl, rfl, _, rfl, ?_⟩
      rw [rl]
      refine ite2 (fun c => ?_) (fun c => ?_)
      · have c := of_decide_eq_true c
        refine ⟨_, rfl, _, rfl, _, rfl, sz2, fun na hna => ⟨sz1, fun ta hta => ?_⟩⟩
        have w3 := (w2.new hna (o := .tup [.str (tx e.1), .int e.2])).new hta (o := .lst [.ref na])
        have s3 : Same B (upd (upd B na (.tup [.str (tx e.1), .int e.2])) ta (.lst [.ref na])) := (w2.sb hna).trans ((w2.new hna).sb hta)
        have hent : EntAt (upd (upd B na (.tup [.str (tx e.1), .int e.2])) ta (.lst [.ref na])) (.ref na) e := ⟨na, rfl, (w2.new hna).sb hta _ _ upd_same⟩
        refine catL_of w3 (s3 _ _ hea) upd_same (by rw [rl]; simp; omega) fun t3 B4 H4 s4 w4 ht3 => ?_
        exact k2 q (by omega) B4 t3 _ H4 (s3.trans s4) w4 ht3 (Paired.app (ents_mono pe (s3.trans s4)) (.cons (hent.mono s4) .nil))
      · have c4 : es.length = 4 := by
          have : ¬ ((es.length : Nat) : Int) < 4 := fun z => c (decide_eq_true z)
          omega
        refine ⟨_, rfl, ea, refs, rfl, .inl (SqL.of (w2.b _ _ hea)), ?_⟩
        rw [rl, c4]
        exact k3 q c4 H2 (s1.trans s2)
end
end Mw
/-! W26: what an act makes of a sheet -/
namespace Mw
open PySem PySem.Spec PyProof.Rows L2
section
variable {P : Program} {w : World} {K : PySem.W.Frag} {mg : Str → Option Value} {base : Heap}
theorem filter_less {es : List Ent} {y : List Nat} {i : Nat} (nd : (es.map Prod.fst).Nodup) (hi : (es.map Prod.fst)[i]? = some y) : es.filter (fun e => decide (e.1 ≠ y)) = lessEs es i := by
  induction es generalizing i with
  | nil => simp at hi
  | cons e r ih =>
    rw [List.map_cons, List.nodup_cons] at nd
    cases i with
    | zero =>
      have e1 : e.1 = y := by simpa using hi
      rw [List.filter_cons_of_neg (by simp [e1])]
      unfold lessEs
      simp only [List.take_zero, List.nil_append, List.drop_succ_cons, List.drop_zero, Nat.zero_add]
      rw [List.filter_eq_self]
      intro f hf
      refine decide_eq_true fun z => nd.1 ?_
      rw [e1, ← z]
      exact List.mem_map_of_mem hf
    | succ i =>
      have hi' : (r.map Prod.fst)[i]? = some y := by simpa using hi
      have ne : e.1 ≠ y := fun z => nd.1 (by rw [z]; exact List.mem_of_getElem? hi')
      rw [List.filter_cons_of_pos (by simp [ne]), ih nd.2 hi']
      unfold lessEs
      simp
theorem paired_filter {α β : Type} {F : α → β → Prop} (f : β → Bool) {l : List α} {m : List β} (p : Paired F l m) : Paired F (((l.zip m).filter fun q => f q.2).map Prod.fst) (m.filter f) := by
  induction p with
  | nil => exact .nil
  | @cons a b l m h _ ih =>
    rw [List.zip_cons_cons]
    by_cases q : f b = true
    · rw [List.filter_cons_of_pos (by exact q), List.filter_cons_of_pos q]
      exact .cons h ih
    · rw [List.filter_cons_of_neg (by exact q), List.filter_cons_of_neg q]
      exact ih
def N__law_done : List Str := ["_law_sheet_here", "_law_act_here", "_law_later", "_law_size", "_law_entry", "_law_name", "_law_worth"]
theorem sc__law_done : FnScope N__law_done ["_law_sheet_here", "_law_act_here"] (defScope (top 66)) := ⟨rfl, rfl, rfl, by decide +kernel, rfl, by decide +kernel, by decide +kernel⟩
def spDone : Sp := fun vs H Q _ => ∃ (B M : Hp) (a ad : Addr) (cs : List Nat) (s : Sh) (d : Deed), vs = [.ref a, .ref ad] ∧ Wd B M H ∧ ShAt B a cs s ∧ ShOk s ∧ B ad = some (.tup d.vals) ∧ Drawn s d ∧
  (∀ s', Stepd s d s' → ∀ B' b H', Same B B' → Wd B' M H' → ShAt B' b cs s' → Q (.ref b) H') ∧ (Refused s d → ∀ B' t H', Same B B' → Wd B' M H' → B' t = some (.tup [.str "entry", .int 4]) → Q (.ref t) H')
theorem c__law_done (T : Tx P w K mg) : Cl P w K mg base CX0 3 "_law_done" spDone := by
  have S := sc__law_done
  have c__law_is_int := @c__law_is_int P w K mg base T
  have c__law_is_text := @c__law_is_text P w K mg base T
  have c__law_changed_entries := @c__law_changed_entries P w K mg base T
  refine mkCl0 T.d__law_done T.gf__law_done S (fun _ _ _ _ _ _ us hl => match us, hl with | [_, _], _ => rfl) (fun vs H Q E h => ?_) (fun cdv A outer s H vs Q E hr h => ?_)
  · obtain ⟨B, M, a, ad, cs, s, d, rfl, _⟩ := h
    rfl
  · obtain ⟨B, M, a, ad, cs, sh, d, rfl, wd, ⟨lt, la, ta, ea, refs, h1, h2, h3, h4, h5⟩, ok, had, dr, k1, k2⟩ := h
    have hu := hu_of hr
    refine ⟨_, (pss_cons (ps_set (i := 2) S.nd rfl (Or.inl rfl) (pe_callTy call_dictD rfl T.n_dict bt_dict (pa_cons (pv 0) pa_nil)))
    (pss_cons (ps_if (pt_cmpR op_eq (pe_ix ix_tup (pv 1) pe_int (fun _ _ => rfl)) pe_str (nomark _)) (pss_cons (ps_dput hu (pv 2) pe_str (pe_ifExp (pt_val (pe_f c__law_is_text hr (by decide) rfl pass0 (pa_cons (pe_ix ix_tup (pv 1) pe_int (fun _ _ => rfl)) pa_nil))) (pe_op op_add_str (pe_dget hu (pv 0) pe_str (fun _ _ => rfl)) (pe_ix ix_tup (pv 1) pe_int (fun _ _ => rfl))) pe_str) rfl)
    (pss_one (ps_ret (pe_ifExp (PW.pt (pw_and (pt_val (pe_f c__law_is_text hr (by decide) rfl pass0 (pa_cons (pe_ix ix_tup (pv 1) pe_int (fun _ _ => rfl)) pa_nil))) (pw_and1 (pt_cmpR op_le (pe_callB call_len_str rfl T.n_len bt_len (pa_cons (pe_dget hu (pv 2) pe_str (fun _ _ => rfl)) pa_nil)) pe_int (nomark _))))) (pv 2) (pe_tup (pa_cons pe_str pa_nil)))))) pss_nil)
    (pss_cons (ps_if (pt_cmpR op_eq (pe_ix ix_tup (pv 1) pe_int (fun _ _ => rfl)) pe_str (nomark _)) (pss_cons (ps_set (i := 3) S.nd rfl (Or.inl rfl) (pe_callB call_len_str rfl T.n_len bt_len (pa_cons (pe_dget hu (pv 0) pe_str (fun _ _ => rfl)) pa_nil)))
    (pss_cons (ps_dput hu (pv 2) pe_str (pe_ifExp (pt_val (pe_f c__law_is_int hr (by decide) rfl pass0 (pa_cons (pe_ix ix_tup (pv 1) pe_int (fun _ _ => rfl)) (pa_cons pe_int (pa_cons (pv 3) pa_nil))))) (pe_slice sl_str (pe_dget hu (pv 0) pe_str (fun _ _ => rfl)) po_none (po_some (pe_op op_sub (pv 3) (pe_ix ix_tup (pv 1) pe_int (fun _ _ => rfl))))) pe_str) rfl)
    (pss_one (ps_ret (pe_ifExp (pt_val (pe_f c__law_is_int hr (by decide) rfl pass0 (pa_cons (pe_ix ix_tup (pv 1) pe_int (fun _ _ => rfl)) (pa_cons pe_int (pa_cons (pv 3) pa_nil))))) (pv 2) (pe_tup (pa_cons pe_str pa_nil))))))) pss_nil)
    (pss_cons (ps_if (pt_cmpR op_eq (pe_ix ix_tup (pv 1) pe_int (fun _ _ => rfl)) pe_str (nomark _)) (pss_cons (ps_dput hu (pv 2) pe_str (pe_f c__law_changed_entries hr (by decide) rfl pass0 (pa_cons (pe_dget hu (pv 0) pe_str (fun _ _ => rfl)) (pa_cons (pe_ix ix_tup (pv 1) pe_int (fun _ _ => rfl)) (pa_cons (pe_ix ix_tup (pv 1) pe_int (fun _ _ => rfl)) pa_nil)))) rfl)
    (pss_one (ps_ret (pe_ifExp (pt_val (pe_callB call_isi rfl T.n_isinstance bt_isinstance (pa_cons (pe_dget hu (pv 2) pe_str (fun _ _ => rfl)) (pa_cons (pe_bltn (v := .ty "list") rfl T.n_list bt_list rfl) pa_nil)))) (pv 2) (pe_tup (pa_cons pe_str (pa_cons (pe_dget hu (pv 2) pe_str (fun _ _ => rfl)) pa_nil))))))) pss_nil)
    (pss_cons (ps_if (pt_cmpR op_eq (pe_ix ix_tup (pv 1) pe_int (fun _ _ => rfl)) pe_str (nomark _)) (pss_cons (ps_dput hu (pv 2) pe_str (pe_lc (own := [("_law_entry", 4)]) (g := gName 4) (by rfl) S.nd (pi_list (pe_dget hu (pv 0) pe_str (fun _ _ => rfl))) (blkOk_by (own := [("_law_entry", 4)]) (N := N__law_done) (sc := defScope (top 66)) (by decide +kernel)) (fun _ _ _ _ _ => (pg_name (i := 4) S.nd rfl (Or.inl rfl))) (fun _ _ _ _ _ => (pts_one (pt_cmpR op_ne (pe_ix (r := rIxT K) ix_tup (pv 4) pe_int (fun _ _ => rfl)) (pe_ix (r := rIxT K) ix_tup (pv 1) pe_int (fun _ _ => rfl)) (nomark _)))) (fun _ _ _ _ _ => (pv 4))) rfl)
    (pss_one (ps_ret (pe_ifExp (pt_cmpR op_lt (pe_callB call_len_seq rfl T.n_len bt_len (pa_cons (pe_dget hu (pv 2) pe_str (fun _ _ => rfl)) pa_nil)) (pe_callB call_len_seq rfl T.n_len bt_len (pa_cons (pe_dget hu (pv 0) pe_str (fun _ _ => rfl)) pa_nil)) (nomark _)) (pv 2) (pe_tup (pa_cons pe_str (pa_cons (pe_ix ix_tup (pv 1) pe_int (fun _ _ => rfl)) pa_nil))))))) pss_nil)
    (pss_cons (ps_for PassesOwn.never rfl (pi_zipM (by rfl) T.n_zip (pa_cons (pe_lst (pa_cons pe_str (pa_cons pe_str (pa_cons pe_str pa_nil)))) (pa_cons (pe_slice sl_tupA (pv 1) (po_some pe_int) po_none) pa_nil))) (pg_tup rfl (pgs_cons (pg_name (i := 5) S.nd rfl (Or.inl rfl)) (pgs_cons (pg_name (i := 6) S.nd rfl (Or.inl rfl)) pgs_nil)))
    (pss_one (ps_if (pt_not (pt_val (pe_f c__law_is_int hr (by decide) rfl pass0 (pa_cons (pv 6) (pa_cons pe_int (pa_cons pe_int pa_nil)))))) (pss_one (ps_ret (pe_tup (pa_cons pe_str (pa_cons (pv 5) pa_nil))))) pss_nil)))
    (pss_cons (ps_dput hu (pv 2) pe_str (pe_slice sl_tupA (pv 1) (po_some pe_int) po_none) rfl)
    (pss_one (ps_ret (pe_ifExp (PW.pt (pw_or (pt_cmpR op_isN (pe_ix ix_tup (pv 1) pe_int (fun _ _ => rfl)) pe_non (nomark _)) (pw_or1 (pt_val (pe_f c__law_is_int hr (by decide) rfl pass0 (pa_cons (pe_ix ix_tup (pv 1) pe_int (fun _ _ => rfl)) (pa_cons pe_int (pa_cons pe_int pa_nil)))))))) (pv 2) (pe_tup (pa_cons pe_str (pa_cons pe_str pa_nil))))))))))))), ?_⟩
    refine ⟨_, rfl, a, _, rfl, .inl (wd.b _ _ h1), fun b hb => ?_⟩
    have w1 := wd.newM hb (o := .dK (shK la ta ea (tx sh.x)))
    have Mb : M b = none := wd.fm hb
    have hd1 := SqT.of (K := K) (w1.b _ _ had)
    have a1 := w1.b _ _ h1
    have fin : ∀ {s' B' ta' ea' refs' H'}, Stepd sh d s' → Same B B' → Wd B' (upd M b (.dK (shK la ta' ea' (tx s'.x)))) H' → PrAt B' ta' s'.p → B' ea' = some (.lst refs') → Paired (EntAt B') refs' s'.es → Q (.ref b) H' := fun {s' B' ta' ea' refs' H'} st sB w' hp he pe => by
      have s2 : Same B' (upd B' b (.dK (shK la ta' ea' (tx s'.x)))) := Same.new (w'.bn upd_same)
      exact k1 s' st _ b H' (sB.trans s2) (w'.frz Mb) ⟨lt, la, ta', ea', refs', upd_same, s2 _ _ (sB _ _ h2), s2 _ _ hp, s2 _ _ he, ents_mono pe s2⟩
    have l400 := ok.l
    obtain ⟨es, p, xs⟩ := sh
    rcases dr with ⟨s', st⟩ | rf
    · cases st with
      | press hy hl =>
        rename_i y
        refine ⟨_, rfl, ad, _, _, _, rfl, rfl, hd1, atI_nat (j := 0) rfl, rfl, _, rfl, iteT' (decide_eq_true rfl) ?_⟩
        refine ⟨_, rfl, ad, _, _, _, rfl, rfl, hd1, atI_nat (j := 1) rfl, y, rfl, hy, fun H2 s2 => ?_⟩
        have w2 := w1.mono s2
        have hd2 := SqT.of (K := K) (w2.b _ _ had)
        refine ⟨_, rfl, iteT ?_⟩
        refine ⟨_, rfl, a, _, rfl, sh_text ▸ DGet.k (k := .inr "text") (w2.b _ _ h1), _, rfl, ad, _, _, _, rfl, rfl, hd2, atI_nat (j := 1) rfl, _, _, rfl, rfl, by rw [tx_len, tx_len]; exact Nat.le_trans hl (by decide), ?_⟩
        refine ⟨_, rfl, b, _, rfl, DPut.k (k := .inr "text") (w2.m _ _ upd_same) (show 4 < sizeLine by decide), ?_⟩
        rw [sh_text_put]
        rw [SX.S_cat]
        have w3 := w2.put (p := b) (o := .dK (shK la ta ea (tx xs))) (o' := .dK (shK la ta ea (tx (xs ++ y)))) upd_same
        rw [upd_upd] at w3
        have hd3 := SqT.of (K := K) (w3.b _ _ had)
        refine ⟨_, rfl, ad, _, _, _, rfl, rfl, hd3, atI_nat (j := 1) rfl, y, rfl, hy, fun H4 s4 => ?_⟩
        have w4 := w3.mono s4
        refine ⟨_, rfl, iteT ⟨_, rfl, b, _, rfl, sh_text ▸ DGet.k (k := .inr "text") (w4.m _ _ upd_same), _, rfl, by rw [tx_len, List.length_append]; exact Nat.le_trans hl (by decide), _, _, rfl, rfl, _, rfl, ?_⟩⟩
        rw [tx_len, decide_eq_true (show (((xs ++ y).length : Nat) : Int) ≤ 400 by rw [List.length_append]; omega)]
        exact iteT ⟨_, rfl, fin (.press hy hl) (Same.refl _) w4 h3 h4 h5⟩
      | back n1 n2 =>
        rename_i n
        have l1 : (tx xs).length ≤ sizeLine := by rw [tx_len]; exact Nat.le_trans l400 (by decide)
        refine ⟨_, rfl, ad, _, _, _, rfl, rfl, hd1, atI_nat (j := 0) rfl, rfl, _, rfl, iteF' (decide_eq_false nm_ne1) ?_⟩
        refine ⟨_, rfl, ad, _, _, _, rfl, rfl, hd1, atI_nat (j := 0) rfl, rfl, _, rfl, iteT' (decide_eq_true rfl) ?_⟩
        refine ⟨_, rfl, a, _, rfl, sh_text ▸ DGet.k (k := .inr "text") a1, _, rfl, l1, ?_⟩
        rw [tx_len]
        refine ⟨_, rfl, ad, _, _, _, rfl, rfl, hd1, atI_nat (j := 1) rfl, _, rfl, (n : Int), 1, (xs.length : Nat), rfl, by omega, by omega, _, rfl, iteT ?_⟩
        refine ⟨_, rfl, a, _, rfl, sh_text ▸ DGet.k (k := .inr "text") a1, _, rfl, _, rfl, ad, _, _, _, rfl, rfl, hd1, atI_nat (j := 1) rfl, _, _, rfl, rfl, _, rfl, _, rfl, l1, ?_⟩
        refine ⟨_, rfl, b, _, rfl, DPut.k (k := .inr "text") (w1.m _ _ upd_same) (show 4 < sizeLine by decide), ?_⟩
        rw [sh_text_put, show (xs.length : Int) - n = ((xs.length - n : Nat) : Int) by omega, cut_to]
        have w3 := w1.put (p := b) (o := .dK (shK la ta ea (tx xs))) (o' := .dK (shK la ta ea (tx (xs.take (xs.length - n))))) upd_same
        rw [upd_upd] at w3
        have hd3 := SqT.of (K := K) (w3.b _ _ had)
        refine ⟨_, rfl, ad, _, _, _, rfl, rfl, hd3, atI_nat (j := 1) rfl, _, rfl, (n : Int), 1, (xs.length : Nat), rfl, by omega, by omega, _, rfl, iteT ?_⟩
        exact ⟨_, rfl, fin (.back n1 n2) (Same.refl _) w3 h3 h4 h5⟩
      | old hi he =>
        rename_i e i
        refine ⟨_, rfl, ad, _, _, _, rfl, rfl, hd1, atI_nat (j := 0) rfl, rfl, _, rfl, iteF' (decide_eq_false nm_ne2) ?_⟩
        refine ⟨_, rfl, ad, _, _, _, rfl, rfl, hd1, atI_nat (j := 0) rfl, rfl, _, rfl, iteF' (decide_eq_false nm_ne3) ?_⟩
        refine ⟨_, rfl, ad, _, _, _, rfl, rfl, hd1, atI_nat (j := 0) rfl, rfl, _, rfl, iteT' (decide_eq_true rfl) ?_⟩
        refine ⟨_, rfl, a, .ref ea, rfl, sh_entries ▸ DGet.k (k := .inr "entries") a1, _, rfl, ad, _, _, _, rfl, rfl, hd1, atI_nat (j := 1) rfl, _, rfl, ad, _, _, _, rfl, rfl, hd1, atI_nat (j := 2) rfl, B, _, ea, refs, es, e, rfl, w1, h4, h5, ok.es, he, fun j hj B2 eb refs2 H2 s2 w2 h6 h7 => ?_, fun no => absurd (List.mem_of_getElem? hi) no, fun no => absurd (List.mem_of_getElem? hi) no⟩
        have hij : j = i := (List.getElem?_inj (List.getElem?_eq_some_iff.mp hj).1 ok.es.nd).mp (hj.trans hi.symm)
        rw [hij] at h7
        refine ⟨_, rfl, b, _, rfl, DPut.k (k := .inr "entries") (w2.m _ _ upd_same) (show 4 < sizeLine by decide), ?_⟩
        rw [sh_entries_put]
        have w3 := w2.put (p := b) (o := .dK (shK la ta ea (tx xs))) (o' := .dK (shK la ta eb (tx xs))) upd_same
        rw [upd_upd] at w3
        refine ⟨_, rfl, b, .ref eb, rfl, sh_entries ▸ DGet.k (k := .inr "entries") (w3.m _ _ upd_same), _, _, _, _, true, rfl, .ty _, .base (.lst (w3.b _ _ h6)), kit_ty (by decide +kernel), _, rfl, iteT ⟨_, rfl, ?_⟩⟩
        exact fin (.old hi he) s2 w3 (s2 _ _ h3) h6 h7
      | new hn he h4' =>
        rename_i e
        refine ⟨_, rfl, ad, _, _, _, rfl, rfl, hd1, atI_nat (j := 0) rfl, rfl, _, rfl, iteF' (decide_eq_false nm_ne2) ?_⟩
        refine ⟨_, rfl, ad, _, _, _, rfl, rfl, hd1, atI_nat (j := 0) rfl, rfl, _, rfl, iteF' (decide_eq_false nm_ne3) ?_⟩
        refine ⟨_, rfl, ad, _, _, _, rfl, rfl, hd1, atI_nat (j := 0) rfl, rfl, _, rfl, iteT' (decide_eq_true rfl) ?_⟩
        refine ⟨_, rfl, a, .ref ea, rfl, sh_entries ▸ DGet.k (k := .inr "entries") a1, _, rfl, ad, _, _, _, rfl, rfl, hd1, atI_nat (j := 1) rfl, _, rfl, ad, _, _, _, rfl, rfl, hd1, atI_nat (j := 2) rfl, B, _, ea, refs, es, e, rfl, w1, h4, h5, ok.es, he, fun j hj => absurd (List.mem_of_getElem? hj) hn, fun _ _ B2 eb refs2 H2 s2 w2 h6 h7 => ?_, fun _ z => absurd z (by omega)⟩
        refine ⟨_, rfl, b, _, rfl, DPut.k (k := .inr "entries") (w2.m _ _ upd_same) (show 4 < sizeLine by decide), ?_⟩
        rw [sh_entries_put]
        have w3 := w2.put (p := b) (o := .dK (shK la ta ea (tx xs))) (o' := .dK (shK la ta eb (tx xs))) upd_same
        rw [upd_upd] at w3
        refine ⟨_, rfl, b, .ref eb, rfl, sh_entries ▸ DGet.k (k := .inr "entries") (w3.m _ _ upd_same), _, _, _, _, true, rfl, .ty _, .base (.lst (w3.b _ _ h6)), kit_ty (by decide +kernel), _, rfl, iteT ⟨_, rfl, ?_⟩⟩
        exact fin (.new hn he h4') s2 w3 (s2 _ _ h3) h6 h7
      | forget hi =>
        rename_i y i
        refine ⟨_, rfl, ad, _, _, _, rfl, rfl, hd1, atI_nat (j := 0) rfl, rfl, _, rfl, iteF' (decide_eq_false nm_ne4) ?_⟩
        refine ⟨_, rfl, ad, _, _, _, rfl, rfl, hd1, atI_nat (j := 0) rfl, rfl, _, rfl, iteF' (decide_eq_false nm_ne5) ?_⟩
        refine ⟨_, rfl, ad, _, _, _, rfl, rfl, hd1, atI_nat (j := 0) rfl, rfl, _, rfl, iteF' (decide_eq_false nm_ne6) ?_⟩
        refine ⟨_, rfl, ad, _, _, _, rfl, rfl, hd1, atI_nat (j := 0) rfl, rfl, _, rfl, iteT' (decide_eq_true rfl) ?_⟩
        have h4H := w1.b _ _ h4
        have rl := h5.length
        refine ⟨_, rfl, a, _, rfl, sh_entries ▸ DGet.k (k := .inr "entries") a1, ea, rfl, ⟨refs, SqL.of h4H⟩, fun D hD => ?_⟩
        refine lc_pre (walk_list (xs := refs)) (fun j => (((refs.zip es).take j).filter fun q => decide (q.2.1 ≠ y)).map Prod.fst) rfl (fun j hj => small_line ?_) hD (fun H' s => SqL.of (s _ _ h4H)) (fun j v H2 H3 Qe Qn hj s2 yy q1 q2 => ?_) (fun H2 s2 hl2 => ?_)
        · rw [List.length_map]
          refine Nat.le_trans (List.length_filter_le _ _) ?_
          rw [List.length_take, List.length_zip]
          have := ok.es.len
          dsimp only at this
          omega
        · obtain ⟨rfl, hv⟩ := yy
          obtain ⟨e, he, ⟨ya, rfl, hya⟩⟩ := paired_at h5 hv
          have hz : (refs.zip es)[j]? = some (.ref ya, e) := by
            rw [List.getElem?_zip_eq_some]
            exact ⟨hv, he⟩
          refine ⟨rfl, _, rfl, ya, _, _, _, rfl, rfl, SqT.of (s2 _ _ (w1.b _ _ hya)), atI_nat (j := 0) rfl, _, rfl, ad, _, _, _, rfl, rfl, SqT.of (s2 _ _ (w1.b _ _ had)), atI_nat (j := 1) rfl, rfl, _, rfl, ?_⟩
          rw [show decide (V.str (tx e.1) = V.str (tx y)) = decide (e.1 = y) from decide_eq_decide.mpr (by rw [tx_V])]
          by_cases q : e.1 = y
          · rw [decide_eq_true q]
            refine iteF (q2 _ ?_ (Same.refl _))
            rw [take_snoc hz, List.filter_append, List.map_append]
            simp [q]
          · rw [decide_eq_false q]
            refine iteT ⟨_, rfl, q1 _ _ ?_ (Same.refl _)⟩
            rw [take_snoc hz, List.filter_append, List.map_append]
            simp [q]
        · have lz : (refs.zip es).take refs.length = refs.zip es := List.take_of_length_le (by rw [List.length_zip]; omega)
          rw [lz] at hl2
          have pf := paired_filter (fun e : Ent => decide (e.1 ≠ y)) h5
          rw [filter_less ok.es.nd hi] at pf
          generalize ((refs.zip es).filter fun q => decide (q.2.1 ≠ y)).map Prod.fst = refs2 at hl2 pf
          have w2 := (w1.new hD (o := .lst refs2)).mono (same_upd hD s2 hl2)
          have sB := w1.sb hD (o := .lst refs2)
          refine ⟨_, rfl, b, _, rfl, DPut.k (k := .inr "entries") (w2.m _ _ upd_same) (show 4 < sizeLine by decide), ?_⟩
          rw [sh_entries_put]
          have w3 := w2.put (p := b) (o := .dK (shK la ta ea (tx xs))) (o' := .dK (shK la ta D (tx xs))) upd_same
          rw [upd_upd] at w3
          refine ⟨_, rfl, b, .ref D, rfl, sh_entries ▸ DGet.k (k := .inr "entries") (w3.m _ _ upd_same), _, _, rfl, .inl (SqL.of (w3.b _ _ upd_same)), _, rfl, a, .ref ea, rfl, sh_entries ▸ DGet.k (k := .inr "entries") (w3.b _ _ (sB _ _ h1)), _, _, rfl, .inl (SqL.of (w3.b _ _ (sB _ _ h4))), _, _, rfl, rfl, _, rfl, ?_⟩
          have il : i < es.length := by
            have := (List.getElem?_eq_some_iff.mp hi).1
            rwa [List.length_map] at this
          have ll : (lessEs es i).length < es.length := by
            unfold lessEs
            rw [List.length_append, List.length_take, List.length_drop]
            omega
          rw [rl, pf.length, decide_eq_true (show (((lessEs es i).length : Nat) : Int) < (es.length : Nat) by omega)]
          exact iteT ⟨_, rfl, fin (.forget hi) sB w3 (sB _ _ h3) upd_same (ents_mono pf sB)⟩
      | slips hq =>
        rename_i q
        refine ⟨_, rfl, ad, _, _, _, rfl, rfl, hd1, atI_nat (j := 0) rfl, rfl, _, rfl, iteF' (decide_eq_false nm_ne7) ?_⟩
        refine ⟨_, rfl, ad, _, _, _, rfl, rfl, hd1, atI_nat (j := 0) rfl, rfl, _, rfl, iteF' (decide_eq_false nm_ne8) ?_⟩
        refine ⟨_, rfl, ad, _, _, _, rfl, rfl, hd1, atI_nat (j := 0) rfl, rfl, _, rfl, iteF' (decide_eq_false nm_ne9) ?_⟩
        refine ⟨_, rfl, ad, _, _, _, rfl, rfl, hd1, atI_nat (j := 0) rfl, rfl, _, rfl, iteF' (decide_eq_false nm_ne10) ?_⟩
        refine ⟨sz3, fun zl hzl => ?_⟩
        have w2 := w1.new hzl (o := .lst [.str "extra", .str "missing", .str "wrong"])
        have sz := w1.sb hzl (o := .lst [.str "extra", .str "missing", .str "wrong"])
        refine ⟨_, rfl, _, rfl, ad, _, rfl, SqT.of (w2.b _ _ (sz _ _ had)), fun z => absurd z.1 (show ¬ HT.sIx 5 0 (some 1) = 0 by decide), fun _ t ht0 => ?_⟩
        rw [show cutV (Deed.slips q).vals (some 1) none = [.int q.ex, .int q.mi, .int q.wr, swV q.sw] from cutV_from (i := 1)]
        have w3 := w2.new ht0 (o := .tup [.int q.ex, .int q.mi, .int q.wr, swV q.sw])
        have s3 := w2.sb ht0 (o := .tup [.int q.ex, .int q.mi, .int q.wr, swV q.sw])
        have ht : (upd (upd B zl (.lst [.str "extra", .str "missing", .str "wrong"])) t (.tup [.int q.ex, .int q.mi, .int q.wr, swV q.sw])) t = some (.tup [.int q.ex, .int q.mi, .int q.wr, swV q.sw]) := upd_same
        have hz3 := w3.b _ _ (s3 _ _ upd_same)
        refine ⟨zl, t, _, _, rfl, SqL.of hz3, SqT.of (w3.b _ _ ht), ?_⟩
        refine for_it (walk_zipM (xs := [.str "extra", .str "missing", .str "wrong"]) (ys := [.int q.ex, .int q.mi, .int q.wr, swV q.sw]) (show 3 ≤ 4 by decide)) (fun i σ H' => (∃ b5 b6, σ = [some (.ref a), some (.ref ad), some (.ref b), none, none, b5, b6]) ∧ Same (upd (upd (upd H b (.dK (shK la ta ea (tx xs)))) zl (.lst [.str "extra", .str "missing", .str "wrong"])) t (.tup [.int q.ex, .int q.mi, .int q.wr, swV q.sw])) H') ⟨⟨_, _, rfl⟩, Same.refl _⟩ (fun i _ H' _ pv => ⟨SqL.of (pv.2 _ _ hz3), SqT.of (pv.2 _ _ (w3.b _ _ ht))⟩) (fun i v σ1 H1 H2 hi pv yy => ?_) (fun σ1 H1 pv => ?_)
        · obtain ⟨⟨b5, b6, rfl⟩, s4⟩ := pv
          obtain ⟨T', x', y', rfl, hT, rfl, hx', hy'⟩ := yy
          refine ⟨T', _, rfl, SqT.of upd_same, rfl, _, _, rfl, _, _, rfl, rfl, ?_⟩
          obtain ⟨z, rfl, z1, z9⟩ : ∃ z : Int, y' = .int z ∧ 1 ≤ z ∧ z ≤ 9 := by
            match i, hi, hy' with
            | 0, _, h => exact ⟨q.ex, (Option.some.inj h).symm, hq.ex.1, hq.ex.2⟩
            | 1, _, h => exact ⟨q.mi, (Option.some.inj h).symm, hq.mi.1, hq.mi.2⟩
            | 2, _, h => exact ⟨q.wr, (Option.some.inj h).symm, hq.wr.1, hq.wr.2⟩
          exact ⟨_, rfl, z, 1, 9, rfl, z1, z9, _, rfl, iteF ⟨⟨_, _, rfl⟩, s4.trans (Same.new hT)⟩⟩
        · obtain ⟨⟨b5, b6, rfl⟩, s4⟩ := pv
          have w4 := w3.mono s4
          refine ⟨_, rfl, _, rfl, ?_⟩
          dsimp only [tNoPart]
          refine slA_of (lo := some (1 : Int)) (hi := none) w4 ((sz.trans s3) _ _ had) fun t2 B5 H5 s5 w5 ht2 => ?_
          rw [show (1 : Int) = ((1 : Nat) : Int) from rfl, cutV_from] at ht2
          replace ht2 : PrAt B5 t2 q := ht2
          refine ⟨_, rfl, b, _, rfl, DPut.k (k := .inr "prices") (w5.m _ _ upd_same) (show 4 < sizeLine by decide), ?_⟩
          rw [sh_prices_put]
          have w6 := w5.put (p := b) (o := .dK (shK la ta ea (tx xs))) (o' := .dK (shK la t2 ea (tx xs))) upd_same
          rw [upd_upd] at w6
          have sB := (sz.trans s3).trans s5
          have done := fin (.slips hq) sB w6 ht2 (sB _ _ h4) (ents_mono h5 sB)
          refine ⟨_, rfl, ad, _, _, _, rfl, rfl, SqT.of (w6.b _ _ (sB _ _ had)), atI_nat (j := 4) rfl, ?_⟩
          refine ⟨rfl, _, rfl, ?_⟩
          cases e : q.sw with
          | none => exact iteT' (decide_eq_true rfl) (iteT ⟨_, rfl, done⟩)
          | some z =>
            refine iteF' (decide_eq_false (fun h => nomatch h)) ⟨_, rfl, ad, _, _, .int z, rfl, rfl, SqT.of (w6.b _ _ (sB _ _ had)), atI_nat (j := 4) (by show some (swV q.sw) = _; rw [e]; rfl), z, 1, 9, rfl, (hq.sw z e).1, (hq.sw z e).2, _, rfl, iteT ⟨_, rfl, done⟩⟩
    · cases rf with
      | full hn he h4' =>
        rename_i e
        refine ⟨_, rfl, ad, _, _, _, rfl, rfl, hd1, atI_nat (j := 0) rfl, rfl, _, rfl, iteF' (decide_eq_false nm_ne2) ?_⟩
        refine ⟨_, rfl, ad, _, _, _, rfl, rfl, hd1, atI_nat (j := 0) rfl, rfl, _, rfl, iteF' (decide_eq_false nm_ne3) ?_⟩
        refine ⟨_, rfl, ad, _, _, _, rfl, rfl, hd1, atI_nat (j := 0) rfl, rfl, _, rfl, iteT' (decide_eq_true rfl) ?_⟩
        refine ⟨_, rfl, a, .ref ea, rfl, sh_entries ▸ DGet.k (k := .inr "entries") a1, _, rfl, ad, _, _, _, rfl, rfl, hd1, atI_nat (j := 1) rfl, _, rfl, ad, _, _, _, rfl, rfl, hd1, atI_nat (j := 2) rfl, B, _, ea, refs, es, e, rfl, w1, h4, h5, ok.es, he, fun j hj => absurd (List.mem_of_getElem? hj) hn, fun _ z => absurd z (by omega), fun _ _ H2 s2 => ?_⟩
        have w2 := w1.mono s2
        refine ⟨_, rfl, b, _, rfl, DPut.k (k := .inr "entries") (w2.m _ _ upd_same) (show 4 < sizeLine by decide), ?_⟩
        have v4 : valV (putK (shK la ta ea (tx xs)) (.inr "entries") (.int 4)) (.inr "entries") = some (.int 4) := by rw [valV_put, if_pos rfl]
        have w3 := w2.put (p := b) (o := .dK (shK la ta ea (tx xs))) (o' := .dK (putK (shK la ta ea (tx xs)) (.inr "entries") (.int 4))) upd_same
        rw [upd_upd] at w3
        refine ⟨_, rfl, b, .int 4, rfl, v4 ▸ DGet.k (k := .inr "entries") (w3.m _ _ upd_same), _, _, _, _, false, rfl, .ty _, .base (.int 4), kit_ty (by decide +kernel), _, rfl, iteF ⟨_, rfl, b, .int 4, rfl, v4 ▸ DGet.k (k := .inr "entries") (w3.m _ _ upd_same), sz2, fun t ht => ?_⟩⟩
        exact k2 (.full hn he h4') _ t _ (w3.sb ht) ((w3.new ht).less (Same.new Mb)) upd_same
end
end Mw
/-! WG: defs that ask that nothing is being shown: repr of nested data -/
namespace Mw
open PySem PySem.Spec PyProof.Rows L2
structure FnOkG (P : Program) (w : World) (K : PySem.W.Frag) (mg : Str → Option Value) (base : Heap) (CX : CXT) (k : Nat) (f : Addr) (fd : FuncData) (ps : List Str) (sp : Sp) : Prop where
  len : ∀ vs H Q E, sp vs H Q E → vs.length = ps.length
  run : ∀ (A : Around) (outer : List Env) (s : Shared) (H : Hp) (args : Args) (us : List Value) (vs : List V) (Q : VK) (E : XK), Room k A → A.guards = some [] → Env0 P w K mg base A outer s H → BindsTo s fd args (ps.zip us) → Vals vs us → sp vs H Q E →
    codeAny (model P w) A (.call (.ref f) args) (CR CX outer P w H s Q E) s
theorem FnOkG.mono {P : Program} {w : World} {K : PySem.W.Frag} {mg : Str → Option Value} {base : Heap} {CX : CXT} {j k : Nat} {f : Addr} {fd : FuncData} {ps : List Str} {sp : Sp} (F : FnOkG P w K mg base CX j f fd ps sp) (h : j ≤ k) :
    FnOkG P w K mg base CX k f fd ps sp := ⟨F.len, fun A outer s H args us vs Q E hr hg => F.run A outer s H args us vs Q E (hr.mono h) hg⟩
structure ClG (P : Program) (w : World) (K : PySem.W.Frag) (mg : Str → Option Value) (base : Heap) (CX : CXT) (k : Nat) (x : Str) (sp : Sp) : Prop where
  ex : ∃ (f : Addr) (fd : FuncData) (ps : List Str), FnOkG P w K mg base CX k f fd ps sp ∧ mg x = some (.ref f) ∧ PySem.W.keepIn K (.ref f) = true ∧ Binds K fd ps []
section
variable {X : Cx} {CX : CXT} {k j : Nat} {f C : Addr} {fd : FuncData} {ps : List Str} {sp : Sp} {dvs : List V} {ds : List Value} {E : XK} {x m : Str} {p pos apos : Pos} {e o : Expr} {es : List Expr} {ta : TE} {t : TA}
theorem run_fnG {pins : List (Addr × Obj)} {σ : L2.St} {H : Hp} {s : Shared} {Q : VK} {us : List Value} {vs : List V} (F : FnOkG X.prog X.w X.K X.mg X.base CX k f fd ps sp) (hr : Room k X.A) (hgd : X.A.guards = some []) (hb : Binds X.K fd ps []) (hx : Passes CX X E)
    (I : Inv X pins σ H s) (r : Vals vs us) (h : sp vs H Q E) : wpAny (model X.prog X.w) X.A (call (.ref f) us) (EP X pins σ Q) X.xe s := by
  have hl : (us ++ []).length = ps.length := by rw [List.append_nil, ← r.length]; exact F.len _ _ _ _ h
  have hb' := hb s us I.kIn hl
  rw [List.append_nil] at hb'
  refine wpAny_call (codeAny_mono (F.run X.A X.stack s H ⟨us, []⟩ us vs Q E hr hgd I.env0 hb' r h) fun r s' hq => ?_)
  cases r with
  | error e => exact hx pins σ H s e s' I hq
  | ok fl =>
    cases fl with
    | ret u => exact I.after hq
    | next => exact False.elim hq
    | brk => exact False.elim hq
    | cont => exact False.elim hq
theorem pe_fG (c : ClG X.prog X.w X.K X.mg X.base CX k x sp) (hr : Room j X.A) (hgd : X.A.guards = some []) (hk : k ≤ j) (hg : Gl X x) (hx : Passes CX X E) (ha : PA X (e :: es) t)
    (hdb : (x == ("__debug__" : Str)) = false := by decide) (he : starEach (e :: es) X.env = (false, eval e X.env) :: starEach es X.env := by rfl) (hpl : (backTo pos (starEach es X.env)).any (·.1) = false := by rfl) :
    PE X (.Call (.Name x p) (e :: es) [] pos) (tCall sp [] E t) := by
  obtain ⟨f, fd, ps, F, hm, kp, b⟩ := c.ex
  refine ⟨fun pins s σ H Q I h => ?_⟩
  refine wpAny_Call_Name_kw (ld_glob I hg hm ?_ hdb)
  refine PySem.W.callWith_K (h₀ := X.base) I.ok.mod.kin kp (thn (ha.run pos pins s σ H _ I h) fun us s1 ⟨vs, H1, I1, r, q⟩ => ⟨I1.kIn, ?_⟩) he hpl
  exact run_fnG F (hr.mono hk) hgd b hx I1 r (by
    have q' : sp (vs ++ []) H1 Q E := q
    rw [List.append_nil] at q'
    exact q')
end
section
variable {P : Program} {w : World} {K : PySem.W.Frag} {mg : Str → Option Value} {base : Heap}
theorem mkClG {x : Str} {st : Stmt} {f : Addr} {N ps : List Str} {k : Nat} {sp : Sp} (F : ∃ fd, FunD K x x (defArgs st) (defBody st) (defScope st) [] [] f fd) (hm : mg x = some (.ref f)) (S : FnScope N ps (defScope st))
    (hb : ∀ (kV doc pm : Value) (an : Option Addr) (cdv ct : Value) (us : List Value), us.length = ps.length → bindArgs (PySem.W.fnOf x x (defArgs st) (defBody st) (defScope st) .none kV doc pm an cdv ct) ⟨us, []⟩ = pure (ps.zip us))
    (len : ∀ vs H Q E, sp vs H Q E → vs.length = ps.length)
    (hbody : ∀ (cdv : Value) (A : Around) (outer : List Env) (s : Shared) (H : Hp) (vs : List V) (Q : VK) (E : XK), Room k (A.deeper (envOfC x (defScope st) s.heap.objs.size f cdv)) → A.guards = some [] → sp vs H Q E →
      ∃ t, PSs (cxOf CX0 P w K mg base N x (defScope st) f cdv A outer s H E).nox (defBody st) t ∧ t { nx := fun _ H' => Q .non H', rt := Q } (L2.start N vs) H) : ClG P w K mg base CX0 (k + 1) x sp := by
  obtain ⟨fd, F⟩ := F
  have kp := F.kp
  have b := F.bindsN hb
  obtain ⟨oc, od, dV, kV, doc, pm, an, cdv, ct, osl, rfl, lk, hcd, _, _⟩ := F.ex
  refine ⟨f, _, ps, ⟨len, fun A outer s H args us vs Q E hr hg e0 hb r hsp => ?_⟩, hm, kp, b⟩
  refine LamX.run_ofS lk hcd S hr e0 hb r (len _ _ _ _ hsp) fun hr' => ?_
  obtain ⟨t, a, b⟩ := hbody cdv A outer s H vs Q E hr' hg hsp
  exact ⟨t, a.nox, b⟩
end
/-- repr(x) of nested data; nothing is being shown -/
def rRepr (K : PySem.W.Frag) : List V → Hp → VK → Prop := fun vs H Q => ∃ (a : Addr) (d : PyData), vs = [.ref a] ∧ Dp K H (.ref a) d ∧ PyData.layable0 d = true ∧ d.showable = true ∧ d.intsShort 13 = true ∧ Q (.str d.shown) H
theorem call_reprD {X : Cx} (hu : X.A.units + 66 < cLine) (hg : X.A.guards = some []) : CallR X (.builtin "repr") (rRepr X.K) := by
  intro pins s σ H xs us Q I r h
  obtain ⟨a, d, rfl, dp, hl, hs, hi, q⟩ := h
  obtain ⟨u, rfl, rx⟩ := vals1 r
  cases rx
  obtain ⟨as, rd⟩ := Dp.reads I d _ _ dp rfl
  have hl' : (PyData.canLay0 d && decide (PyData.depth d ≤ 64) && decide (PyData.weight d ≤ 2 ^ 20)) = true := hl
  simp only [Bool.and_eq_true, decide_eq_true_eq] at hl'
  exact repr_of_reads' rd hs (PyData.noDict_hsm (PyData.hasDict_of_layable hl)) hg (by have := hl'.1.2; omega) (fun _ _ e => e) (fun h' u tk hk => ⟨.str _, H, I.kept (t' := tk) hk, ⟨_, rfl⟩, q⟩) (Nat.le_trans (PyData.shown_le_of_layable0 hl hi) (by decide))
/-- repr(x) of a text or None -/
def rReprF : List V → Hp → VK → Prop := fun vs H Q => (vs = [.non] ∧ Q (.str "None") H) ∨ ∃ x : List Nat, vs = [.str (tx x)] ∧ x.length ≤ 1000 ∧ (∀ c ∈ x, c ≤ 122) ∧ Q (.str (reprText (tx x))) H
theorem call_reprF {X : Cx} : CallR X (.builtin "repr") rReprF := by
  intro pins s σ H xs us Q I r h
  rcases h with ⟨rfl, q⟩ | ⟨x, rfl, hl, hc, q⟩
  · obtain ⟨u, rfl, rx⟩ := vals1 r
    cases rx
    exact PySem.P.repr_of_none ⟨.str _, H, I.tok _, ⟨_, rfl⟩, q⟩
  · obtain ⟨u, rfl, t, rfl⟩ := vals1 r
    refine PySem.P.repr_of_str ⟨.str _, H, I.tok _, ⟨_, rfl⟩, q⟩ ?_
    have h1 := PySem.StrLaws.reprText_len (tx x) (fun c h => by
      have := hc c (by simpa using h)
      omega)
    have e : (tx x).length = x.length := tx_len ..
    have z : (10002 : Nat) ≤ sizeLine := by decide
    exact Nat.le_trans h1 (by omega)
end Mw
/-! W27: does the bench stand as the sheet? -/
namespace Mw
open PySem PySem.Spec PyProof.Rows L2
structure DatSm (d : PyData) : Prop where
  lay : d.canLay0 = true
  sh : d.showable = true
  sm : d.intsShort 13 = true
  wt : d.weight ≤ 3000
  dp : d.depth ≤ 2
structure LfSm (d : PyData) : Prop where
  lay : d.canLay0 = true
  sh : d.showable = true
  sm : d.intsShort 13 = true
  wt : d.weight ≤ 400
  dp : d.depth ≤ 1
theorem small_int : ∀ n : Nat, n < 1000 → (PyData.int (n : Int)).weight ≤ 10 ∧ (PyData.int (n : Int)).showable = true ∧ (PyData.int (n : Int)).intsShort 13 = true := by decide +kernel
theorem LfSm.int {i : Int} (h0 : 0 ≤ i) (h9 : i ≤ 999) : LfSm (.int i) := by
  obtain ⟨n, rfl⟩ := Int.eq_ofNat_of_zero_le h0
  have h := small_int n (by omega)
  exact ⟨by simp [PyData.canLay0], h.2.1, h.2.2, by omega, by simp [PyData.depth]⟩
theorem LfSm.wd {x : List Nat} (h : ∀ c ∈ x, c ≤ 122) (hl : x.length ≤ 400) : LfSm (wd x) :=
  ⟨lay_wd h, by simp [Mw.wd, PyData.showable], by simp [Mw.wd, PyData.intsShort], by simpa [Mw.wd, PyData.weight, tx, SX.S] using hl, by simp [Mw.wd, PyData.depth]⟩
theorem LfSm.none : LfSm .none := ⟨by simp [PyData.canLay0], by simp [PyData.showable], by simp [PyData.intsShort], by simp [PyData.weight], by simp [PyData.depth]⟩
theorem LfSm.sw {o : Option Int} (h : ∀ i, o = some i → Pri i) : LfSm (swD o) := by
  cases o with
  | none => exact LfSm.none
  | some i => exact LfSm.int (by have := (h i rfl).1; omega) (by have := (h i rfl).2; omega)
theorem LfSm.nm : LfSm (.str "press") ∧ LfSm (.str "back") ∧ LfSm (.str "learn") ∧ LfSm (.str "forget") ∧ LfSm (.str "slips") := by
  refine ⟨⟨?_, ?_, ?_, ?_, ?_⟩, ⟨?_, ?_, ?_, ?_, ?_⟩, ⟨?_, ?_, ?_, ?_, ?_⟩, ⟨?_, ?_, ?_, ?_, ?_⟩, ⟨?_, ?_, ?_, ?_, ?_⟩⟩
  all_goals decide +kernel
theorem leaves_sm : ∀ {ds : List PyData}, (∀ d ∈ ds, LfSm d) → PyData.canLayAll0 ds = true ∧ PyData.showableAll ds = true ∧ PyData.intsShortAll 13 ds = true ∧ PyData.weightAll ds ≤ 401 * ds.length ∧ PyData.depthAll ds ≤ 1
  | [], _ => by simp [PyData.canLayAll0, PyData.showableAll, PyData.intsShortAll, PyData.weightAll, PyData.depthAll]
  | d :: ds, h => by
    have h1 := h d (List.mem_cons_self ..)
    obtain ⟨a1, a2, a3, a4, a5⟩ := leaves_sm fun e he => h e (List.mem_cons_of_mem _ he)
    have := h1.wt
    have := h1.dp
    refine ⟨by rw [PyData.canLayAll0, h1.lay, a1]; rfl, by rw [PyData.showableAll, h1.sh, a2]; rfl, by rw [PyData.intsShortAll, h1.sm, a3]; rfl, by rw [PyData.weightAll, List.length_cons]; omega, by rw [PyData.depthAll]; omega⟩
theorem DatSm.tup {ds : List PyData} (h : ∀ d ∈ ds, LfSm d) (hl : ds.length ≤ 5) : DatSm (.tuple ds) := by
  obtain ⟨a1, a2, a3, a4, a5⟩ := leaves_sm h
  exact ⟨by rw [PyData.canLay0]; exact a1, by rw [PyData.showable]; exact a2, by rw [PyData.intsShort]; exact a3, by rw [PyData.weight]; omega, by rw [PyData.depth]; omega⟩
theorem Stepd.sm {s s' : Sh} {d : Deed} (st : Stepd s d s') (ok : ShOk s) : DatSm d.data := by
  obtain ⟨n1, n2, n3, n4, n5⟩ := LfSm.nm
  have ent : ∀ {e : Ent}, EntOk e → LfSm (wd e.1) ∧ LfSm (.int e.2) := fun {e} he => ⟨LfSm.wd (fun c hc => (he.az c hc).2) (by have := he.l5; omega), LfSm.int he.o0 he.o9⟩
  cases st with
  | press hy hl =>
    refine DatSm.tup (ds := [_, _]) (fun d hd => ?_) (by simp)
    simp only [List.mem_cons, List.not_mem_nil, or_false] at hd
    rcases hd with rfl | rfl
    · exact n1
    · exact LfSm.wd (fun c hc => (hy.1 c hc).2) (by omega)
  | back h1 h2 =>
    have := ok.l
    dsimp only at this
    refine DatSm.tup (ds := [_, _]) (fun d hd => ?_) (by simp)
    simp only [List.mem_cons, List.not_mem_nil, or_false] at hd
    rcases hd with rfl | rfl
    · exact n2
    · exact LfSm.int (by omega) (by omega)
  | old hi he =>
    refine DatSm.tup (ds := [_, _, _]) (fun d hd => ?_) (by simp)
    simp only [List.mem_cons, List.not_mem_nil, or_false] at hd
    rcases hd with rfl | rfl | rfl
    · exact n3
    · exact (ent he).1
    · exact (ent he).2
  | new hn he h4 =>
    refine DatSm.tup (ds := [_, _, _]) (fun d hd => ?_) (by simp)
    simp only [List.mem_cons, List.not_mem_nil, or_false] at hd
    rcases hd with rfl | rfl | rfl
    · exact n3
    · exact (ent he).1
    · exact (ent he).2
  | forget hi =>
    refine DatSm.tup (ds := [_, _]) (fun d hd => ?_) (by simp)
    simp only [List.mem_cons, List.not_mem_nil, or_false] at hd
    rcases hd with rfl | rfl
    · exact n4
    · obtain ⟨e, he, rfl⟩ := List.mem_map.mp (List.mem_of_getElem? hi)
      exact (ent (ok.es.all e he)).1
  | slips hq =>
    refine DatSm.tup (ds := [_, _, _, _, _]) (fun d hd => ?_) (by simp)
    simp only [List.mem_cons, List.not_mem_nil, or_false] at hd
    have pr : ∀ {i : Int}, Pri i → LfSm (.int i) := fun h => LfSm.int (by have := h.1; omega) (by have := h.2; omega)
    rcases hd with rfl | rfl | rfl | rfl | rfl
    · exact n5
    · exact pr hq.ex
    · exact pr hq.mi
    · exact pr hq.wr
    · exact LfSm.sw hq.sw
theorem ChOk.sm : ∀ {c : Chain} {s0 : Sh}, ChOk c s0 → ∀ d ∈ c.map Prod.fst, DatSm d.data
  | [], _, _, d, hd => by cases hd
  | (d0, s) :: r, s0, ⟨st, h⟩, d, hd => by
    rw [List.map_cons] at hd
    rcases List.mem_cons.mp hd with rfl | hd
    · exact st.sm h.cur
    · exact ChOk.sm h d hd
theorem data_sm : ∀ {ds : List Deed}, (∀ d ∈ ds, DatSm d.data) → PyData.canLayAll0 (ds.map Deed.data) = true ∧ PyData.showableAll (ds.map Deed.data) = true ∧ PyData.intsShortAll 13 (ds.map Deed.data) = true ∧ PyData.weightAll (ds.map Deed.data) ≤ 3001 * ds.length ∧ PyData.depthAll (ds.map Deed.data) ≤ 2
  | [], _ => by simp [PyData.canLayAll0, PyData.showableAll, PyData.intsShortAll, PyData.weightAll, PyData.depthAll]
  | d :: ds, h => by
    have h1 := h d (List.mem_cons_self ..)
    obtain ⟨a1, a2, a3, a4, a5⟩ := data_sm fun e he => h e (List.mem_cons_of_mem _ he)
    have := h1.wt
    have := h1.dp
    rw [List.map_cons]
    refine ⟨by rw [PyData.canLayAll0, h1.lay, a1]; rfl, by rw [PyData.showableAll, h1.sh, a2]; rfl, by rw [PyData.intsShortAll, h1.sm, a3]; rfl, by rw [PyData.weightAll, List.length_cons]; omega, by rw [PyData.depthAll]; omega⟩
theorem list_sm {ds : List Deed} (h : ∀ d ∈ ds, DatSm d.data) (hl : ds.length ≤ 200) : PyData.layable0 (.list (ds.map Deed.data)) = true ∧ (PyData.list (ds.map Deed.data)).showable = true ∧ (PyData.list (ds.map Deed.data)).intsShort 13 = true := by
  obtain ⟨a1, a2, a3, a4, a5⟩ := data_sm h
  refine ⟨?_, by rw [PyData.showable]; exact a2, by rw [PyData.intsShort]; exact a3⟩
  show (PyData.canLay0 _ && decide (PyData.depth _ ≤ 64) && decide (PyData.weight _ ≤ 2 ^ 20)) = true
  rw [PyData.canLay0, PyData.depth, PyData.weight, a1, decide_eq_true (show PyData.depthAll (ds.map Deed.data) + 1 ≤ 64 by omega), decide_eq_true (show PyData.weightAll (ds.map Deed.data) ≤ 2 ^ 20 by omega)]
  rfl
section
variable {P : Program} {w : World} {K : PySem.W.Frag} {mg : Str → Option Value} {base : Heap}
def moR : Option (List Nat) → Str
  | none => "None"
  | some x => reprText (tx x)
theorem repr_mo {p : Sl} {x : List Nat} {es : List Ent} {o : Option (List Nat)} {H : Hp} {Q : VK} (m : MeantIs p x es o) (ok : EsOk es) (q : Q (.str (moR o)) H) : rReprF [moV o] H Q := by
  rcases m with ⟨_, rfl⟩ | ⟨i, e, he, rfl, _⟩
  · exact .inl ⟨rfl, q⟩
  · have eo := ok.all e (List.mem_of_getElem? he)
    exact .inr ⟨e.1, rfl, by have := eo.l5; omega, fun c hc => (eo.az c hc).2, q⟩
theorem deeds_mono {H H' : Hp} {vs : List V} {ds : List Deed} (h : Paired (DeedAt H) vs ds) (s : Same H H') : Paired (DeedAt H') vs ds := Paired.mapP h fun v d h => by
  obtain ⟨a, h1, h2⟩ := h
  exact ⟨a, h1, s _ _ h2⟩
def N__law_stands : List Str := ["_law_bench", "_law_sheet_here", "_law_acts"]
theorem sc__law_stands : FnScope N__law_stands ["_law_bench", "_law_sheet_here", "_law_acts"] (defScope (top 67)) := ⟨rfl, rfl, rfl, by decide +kernel, rfl, by decide +kernel, by decide +kernel⟩
def spStands (K : PySem.W.Frag) : Sp := fun vs H Q _ => ∃ (B M : Hp) (sb a la dx org now : Addr) (c : Chain) (s0 : Sh) (cs : List Nat) (refs : List V), vs = [.ref sb, .ref a, .ref la] ∧ Wd B M H ∧ M sb = some (.ins (aSe K) dx (seF org now)) ∧ MomAt K B now c s0 ∧ ChOk c s0 ∧ c.length ≤ 200 ∧
  ShAt B a cs (cur c s0) ∧ B la = some (.lst refs) ∧ Paired (DeedAt B) refs (c.map Prod.fst).reverse ∧ ∀ B' H', Same B B' → Wd B' M H' → Q (.bl true) H'
theorem c__law_stands (T : Tx P w K mg) : ClG P w K mg base CX0 12 "_law_stands" (spStands K) := by
  have S := sc__law_stands
  have c_Speller___eq__ := @c_Speller___eq__ P w K mg base T
  have c_Session_speller := @c_Session_speller P w K mg base T
  have c_Session_text := @c_Session_text P w K mg base T
  have c_Session_shown := @c_Session_shown P w K mg base T
  have c_Session_deeds := @c_Session_deeds P w K mg base T
  have c__law_speller := @c__law_speller P w K mg base T
  have c__law_meant := @c__law_meant P w K mg base T
  refine mkClG T.d__law_stands T.gf__law_stands S (fun _ _ _ _ _ _ us hl => match us, hl with | [_, _, _], _ => rfl) (fun vs H Q E h => ?_) (fun cdv A outer s H vs Q E hr hgd h => ?_)
  · obtain ⟨B, M, sb, a, la, dx, org, now, c, s0, cs, refs, rfl, _⟩ := h
    rfl
  · obtain ⟨B, M, sb, a, la, dx, org, now, c, s0, cs, refs, rfl, wd, hsb, hm, cok, lc, sa, hla, pd, k⟩ := h
    have hu := hu_of hr
    have hg66 : (cxOf CX0 P w K mg base N__law_stands "_law_stands" (defScope (top 67)) (He.ga K "_law_stands") cdv A outer s H E).nox.A.units + 66 < cLine := by
      have := hr.un
      show (A.deeper _).units + 66 < cLine
      omega
    refine ⟨_, (pss_cons (ps_if (PW.pt (pw_or (pt_cmpR (op_neO c_Speller___eq__ hr (by decide) pass0 T.ne_Speller T.ob_Speller) (pe_p c_Session_speller hr (by decide) pass0 (pv 0)) (pe_f c__law_speller hr (by decide) rfl pass0 (pa_cons (pv 1) pa_nil)) (nomark _)) (pw_or1 (pt_cmpR op_ne (pe_p c_Session_text hr (by decide) pass0 (pv 0)) (pe_dget hu (pv 1) pe_str (fun _ _ => rfl)) (nomark _))))) (pss_one (ps_ret pe_bl)) pss_nil)
    (pss_one (ps_ret (pe_and (pe_cmpR op_eq (pe_callB call_reprF rfl T.n_repr bt_repr (pa_cons (pe_p c_Session_shown hr (by decide) pass0 (pv 0)) pa_nil)) (pe_callB call_reprF rfl T.n_repr bt_repr (pa_cons (pe_f c__law_meant hr (by decide) rfl pass0 (pa_cons (pv 1) (pa_cons (pe_dget hu (pv 1) pe_str (fun _ _ => rfl)) pa_nil))) pa_nil)) (nomark _)) (pe_one (pe_cmpR op_eq (pe_callB (call_reprD hg66 hgd) rfl T.n_repr bt_repr (pa_cons (pe_m0 c_Session_deeds hr (by decide) pass0 (pv 0)) pa_nil)) (pe_callB (call_reprD hg66 hgd) rfl T.n_repr bt_repr (pa_cons (pv 2) pa_nil)) (nomark _))))))), ?_⟩
    have ok := cok.cur
    obtain ⟨d, b, hmo⟩ := hm.hd
    obtain ⟨mdx, sp, hn, hsp⟩ := id hmo
    have hsbH := wd.m _ _ hsb
    obtain ⟨sdx, su, ssa, hsp1, hsp2, hsp3⟩ := id hsp
    refine ⟨_, rfl, sb, dx, _, rfl, hsbH, sb, dx, org, now, mdx, sp, _, d, b, rfl, hsbH, wd.b _ _ hn, _, rfl, B, M, a, cs, cur c s0, rfl, wd, sa, ok, fun B1 nb H1 s1 w1 hnb => ?_⟩
    obtain ⟨ndx, nu, nsa, hnb1, hnb2, hnb3⟩ := id hnb
    refine ⟨⟨nb, _, _, rfl, w1.b _ _ hnb1⟩, sp, _, _, rfl, w1.b _ _ (s1 _ _ hsp1), sp, nb, (cur c s0).es, (cur c s0).es, (cur c s0).p, (cur c s0).p, rfl, (hsp.mono s1).mono w1.b, hnb.mono w1.b, ok.es, ok.es, fun H2 s2 => ⟨_, rfl, ?_⟩⟩
    rw [decide_eq_true (show (cur c s0).es = (cur c s0).es ∧ (cur c s0).p = (cur c s0).p from ⟨rfl, rfl⟩)]
    have w2 := w1.mono s2
    have hsb2 := w2.m _ _ hsb
    obtain ⟨_, l1, l2, l3, r1, e1, e2, e3, e4, e5⟩ := id (sa.mono s1)
    refine ⟨_, rfl, iteF ?_⟩
    refine ⟨_, rfl, sb, dx, _, rfl, hsb2, sb, dx, org, now, mdx, sp, _, d, b, rfl, hsb2, w2.b _ _ (s1 _ _ hn), _, rfl, a, _, rfl, sh_text ▸ DGet.k (k := .inr "text") (w2.b _ _ e1), rfl, _, rfl, ?_⟩
    rw [decide_eq_true rfl]
    refine iteF ?_
    refine ⟨_, rfl, sb, dx, _, rfl, hsb2, sb, dx, org, now, cur c s0, d, b, rfl, hsb2, (hmo.mono s1).mono w2.b, ok, fun o H3 s3 mo => ?_⟩
    have w3 := w2.mono s3
    dsimp only [tNil]
    refine repr_mo mo ok.es ?_
    refine ⟨_, rfl, _, rfl, a, _, rfl, sh_text ▸ DGet.k (k := .inr "text") (w3.b _ _ e1), a, cs, cur c s0, _, rfl, (sa.mono s1).mono w3.b, ok, Nat.le_trans ok.l (by decide), fun o2 H4 s4 mo2 => ?_⟩
    obtain rfl := mo.unique mo2
    dsimp only [tNil]
    refine repr_mo mo ok.es ?_
    refine ⟨rfl, _, rfl, ?_⟩
    rw [decide_eq_true rfl]
    have w4 := w3.mono s4
    have hsb4 := w4.m _ _ hsb
    have dsm : ∀ d ∈ (c.map Prod.fst).reverse, DatSm d.data := fun d hd => cok.sm d (List.mem_reverse.mp hd)
    have dl : (c.map Prod.fst).reverse.length ≤ 200 := by rw [List.length_reverse, List.length_map]; exact lc
    obtain ⟨z1, z2, z3⟩ := list_sm dsm dl
    refine iteT ⟨_, rfl, sb, dx, _, rfl, hsb4, seF_no (by decide +kernel) (by decide +kernel) (by decide +kernel), sb, dx, org, now, c, s0, rfl, hsb4, (hm.mono s1).mono w4.b, by omega, fun l refs2 H5 s5 hl0 hl pd2 => ?_⟩
    refine ⟨l, _, rfl, .lst (SqL.of hl) (dp_deeds pd2), z1, z2, z3, ?_⟩
    have w5 := w4.mono s5
    refine ⟨_, rfl, la, _, rfl, .lst (SqL.of (w5.b _ _ (s1 _ _ hla))) (dp_deeds (deeds_mono pd (s1.trans w5.b))), z1, z2, z3, ?_⟩
    refine ⟨rfl, ?_⟩
    rw [decide_eq_true rfl]
    exact k B1 H5 s1 w5
end
end Mw
/-! WT: several except clauses, the one that catches has a name; the body lets out one class only -/
namespace Mw
open PySem PySem.Spec PyProof.Rows L2
/-- the clause that catches C: the ones ahead of it do not -/
inductive ClauseAt (X : Cx) (C : Addr) (n : Str) (ts : Addr → Option Addr → TS) : List ExceptHandler → Prop
  | hit {x : Str} {c : Value} {b₀ : Stmt} {suite : List Stmt} {np pos' : Pos} {post : List ExceptHandler} (hc : Names X x c) (he : PySem.W.exmOne X.K (.ref C) c = some true)
      (hsu : ∀ (a : Addr) (oe : Obj) (d : Option Addr) (pn : List (Addr × Obj)), Zc (.ref C) d oe → (∃ vs, oe.data = .fields vs) → PSs (X.suite a ((a, oe) :: pn)) (b₀ :: suite) (ts a d)) :
      ClauseAt X C n ts (.ExceptHandler (some (.Name x np)) (some n) (b₀ :: suite) pos' :: post)
  | skip {x : Str} {c : Value} {nm : Option Str} {suite : List Stmt} {np pos' : Pos} {post : List ExceptHandler} (hc : Names X x c) (he : PySem.W.exmOne X.K (.ref C) c = some false) (r : ClauseAt X C n ts post) :
      ClauseAt X C n ts (.ExceptHandler (some (.Name x np)) nm suite pos' :: post)
/-- the ends of a clause with a name: the name goes -/
def goneEnds (i : Nat) (D : Ends) : Ends := { nx := fun σ H => D.nx (σ.set i none) H, rt := D.rt, bk := fun σ H => D.bk (σ.set i none) H, ct := fun σ H => D.ct (σ.set i none) H }
def wNth (C : Addr) (i : Nat) (ts : Addr → Option Addr → TS) (D : Ends) : WX := fun cls d σ H => cls = .ref C ∧ ∀ a, H a = none → ts a d (goneEnds i D) (σ.set i (some (.ref a))) H
section
variable {X : Cx} {C : Addr} {n : Str} {i : Nat} {ts : Addr → Option Addr → TS} {pins : List (Addr × Obj)} {σ : L2.St} {H : Hp} {D : Ends}
/-- what stands when the exception has landed -/
structure Landed (X : Cx) (pins : List (Addr × Obj)) (σ : L2.St) (H : Hp) (C a : Addr) (d : Option Addr) (B : Heap) (s : Shared) : Prop where
  fl : HandSPX.FlyingZ B (X.env :: X.outer) a (Zc (.ref C) d) s.heap
  inv : ∀ h', B.StaysIn h' → s.heap.UpToSlots h' → Inv X pins σ H { s with heap := h' }
  na : H a = none
theorem Landed.room {a : Addr} {d : Option Addr} {B : Heap} {s : Shared} (L : Landed X pins σ H C a d B s) (hf : X.env.frame = some X.env.locals) : a ≠ X.env.locals ∧ a ∉ X.fs := by
  obtain ⟨oe, vs, he, _, hd⟩ := L.fl.there
  have key : a ∉ frs (X.env :: X.outer) := fun hm => by
    obtain ⟨_, o', e', hnf⟩ := L.fl.2.2.1.mem hm
    rw [he] at e'
    cases e'
    exact hnf _ hd
  refine ⟨fun z => key (List.mem_filterMap.mpr ⟨X.env, List.mem_cons_self, by rw [hf, z]⟩), fun hm => ?_⟩
  obtain ⟨e, h1, h2⟩ := List.mem_filterMap.mp hm
  exact key (List.mem_filterMap.mpr ⟨e, List.mem_cons_of_mem _ h1, h2⟩)
theorem Landed.catch {a : Addr} {d : Option Addr} {B : Heap} {s : Shared} {hds : List ExceptHandler} (k : ClauseAt X C n ts hds) (L : Landed X pins σ H C a d B s) (ok : X.Ok) (hf : X.env.frame = some X.env.locals) (hN : X.N.Nodup) (hi : X.N[i]? = some n)
    (hln : X.env.kindOf n = some .local) (w : ts a d (goneEnds i D) (σ.set i (some (.ref a))) H) : wpAny (model X.prog X.w) X.A (handleBy (.ref a) X.env hds) (SP X pins D) X.xe s := by
  obtain ⟨nL, nF⟩ := L.room hf
  obtain ⟨oe, vs, he, hz, hd⟩ := L.fl.there
  have J : Inv X pins σ H s := L.inv s.heap L.fl.1 (fun b o e _ => ⟨_, e⟩)
  have S := J.suite he hd L.na nL nF
  have LT : PySem.W.Looks (model X.prog X.w) s.heap (typeOf (.ref a)) (.ref C) := fun A Q E s k q => wpAny_typeOf_ref (k _ _ he) (by rw [hz.1]; exact q)
  have name : ∀ {x : Str} {np : Pos} {c : Value} {Q E : Value → Shared → Prop}, Names X x c → Q c s → wpAny (model X.prog X.w) (X.A.mark (some (.ref a))) (eval (.Name x np) X.env) Q E s := fun {x np c Q E} hc q => by
    obtain ⟨hg, h2, hm | ⟨hm, hv, h3⟩⟩ := hc
    · exact ld_glob (X := X.suite a ((a, oe) :: (X.pn ++ pins))) S hg hm q h2
    · exact ld_blt (X := X.suite a ((a, oe) :: (X.pn ++ pins))) S hg hm hv q h3 h2
  induction k with
  | skip hc e r ih =>
    refine wpAny_handleBy_cons (codeAny_handlers_test (name hc ((PySem.W.exm_one (M := model X.prog X.w) J.kIn LT e).here ?_))) (by intro q; cases q)
    exact ih
  | hit hc e hsu =>
    refine wpAny_handleBy_cons (codeAny_handlers_test (name hc ((PySem.W.exm_one (M := model X.prog X.w) J.kIn LT e).here ?_))) (by intro q; cases q)
    refine codeAny_handlers_suite_as (HandSPX.lands_againZ L.fl fun h4 fl4 up4 => ?_)
    obtain ⟨oe4, vs4, he4, hz4, hd4⟩ := fl4.there
    have S4 := (L.inv h4 fl4.1 up4).suite he4 hd4 L.na nL nF
    refine store_ok (X := X.suite a ((a, oe4) :: (X.pn ++ pins))) (v := .ref a) S4 hN hi (.inl hln) rfl (fun s5 S5 => ?_) (.inr hln)
    refine wpAny_mono ((hsu a oe4 d (X.pn ++ pins) hz4 ⟨_, hd4⟩).run [] s5 _ H _ S5 w) (fun f s6 hsp => ?_) (fun _ _ z => z.elim)
    have fin : ∀ {σ6 : L2.St} {H6 : Hp} {pos : Pos} {Q : Shared → Prop}, Inv (X.suite a ((a, oe4) :: (X.pn ++ pins))) [] σ6 H6 s6 → (∀ s7, Inv X pins (σ6.set i none) H6 s7 → Q s7) →
        wpAny (model X.prog X.w) X.A (do bindName X.env n .none; unbindBehindTheSuite X.env n pos) (fun _ s7 => Q s7) X.xe s6 := fun S6 hq => gone_ok (S6.unsuite ok) hN hi hln hq
    cases f with
    | ret u =>
      obtain ⟨v6, σ6, H6, S6, r6, q6⟩ := hsp
      exact fin S6 fun s7 J7 => ⟨_, _, _, J7, r6, q6⟩
    | _ =>
      obtain ⟨σ6, H6, S6, q6⟩ := hsp
      exact fin S6 fun s7 J7 => ⟨_, _, J7, q6⟩
variable {body : List Stmt} {h₀ : ExceptHandler} {hds : List ExceptHandler} {pos : Pos} {tb : WX → TS}
/-- try: body / except ..: .. where the body lets out C's alone -/
theorem ps_try_nth (hs : X.stack = X.env :: X.outer) (hf : X.env.frame = some X.env.locals) (hN : X.N.Nodup) (hi : X.N[i]? = some n) (hln : X.env.kindOf n = some .local) (k : ClauseAt X C n ts (h₀ :: hds))
    (hb : ∀ (W : WX) (pn : List (Addr × Obj)) (xe : Value → Shared → Prop), Takes (X.tr pn xe) W → PSs (X.tr pn xe) body (tb W)) : PS X (.Try body (h₀ :: hds) [] [] pos) (fun D σ H => tb (wNth C i ts D) D σ H) := by
  refine ⟨fun pins s σ H D I h => ?_⟩
  have ok := I.ok
  have hfr : X.A.frames = some (X.env :: X.outer) := by rw [ok.frames, hs]
  refine wpAny_Try_except (wpAny_mono ((hb (wNth C i ts D) (X.pn ++ pins) _ fun u s' xx => ?_).run [] s σ H D (I.toTry _) h) (fun f s1 hsp => ?_) fun e s1 he => he)
  · obtain ⟨a, B, sI, pins', σ', H', cls, d, rfl, J', nb, up, sky, na, os, ag, rfl, w⟩ := xx
    have J : Inv X pins σ' H' sI := J'.ofTry ok
    refine Sky.land Zc.steady hfr hf (show Sky B (X.env :: X.outer) a (Zc (.ref C) d) X.env.locals s'.heap by rw [← hs]; exact sky) fun h3 fl3 up3 => ?_
    exact Landed.catch k (s := { s' with heap := h3 }) (B := B) (d := d) ⟨fl3, fun h' st u2 => J.landed nb st ((up.trans up3).trans u2) os ag, na⟩ ok hf hN hi hln (w a na)
  · cases f with
    | next =>
      obtain ⟨σ', H', J', q⟩ := hsp
      exact wpAny_execs_nil ⟨σ', H', J'.ofTry ok, q⟩
    | ret u =>
      obtain ⟨v, σ', H', J', r, q⟩ := hsp
      exact ⟨v, σ', H', J'.ofTry ok, r, q⟩
    | _ =>
      obtain ⟨σ', H', J', q⟩ := hsp
      exact ⟨σ', H', J'.ofTry ok, q⟩
end
end Mw
/-! W28: what a call let out, told -/
namespace Mw
open PySem PySem.Spec PyProof.Rows L2
/-- _law_caught: what it makes of the lambda's reading -/
def ECaught (K : PySem.W.Frag) (Q : VK) : XK := fun cls d H' => cls = .ref (aBE K) ∧ ∃ (dd : Addr) (i : Int), d = some dd ∧ H' dd = some (.xd [("at", .int i)]) ∧ ∀ t, H' t = none → Q (.ref t) (upd H' t (.tup [.str "entry", .int i]))
def TCaught (K : PySem.W.Frag) : (XK → Hp → VK → Prop) → Hp → VK → Prop := fun tl H Q =>
  ∀ R : VK, (∀ v H', (∀ t, H' t = none → Q (.ref t) (upd H' t (.tup [.str "value", v]))) → R v H') → tl (ECaught K Q) H R
def N__law_caught : List Str := ["_law_work", "_law_found", "error"]
theorem sc__law_caught : FnScope N__law_caught ["_law_work"] (defScope (top 68)) := ⟨rfl, rfl, rfl, by decide +kernel, rfl, by decide +kernel, by decide +kernel⟩
theorem takes_len {X : Cx} {W : WX} {n : Nat} (tk : Takes X W) (hn : X.N.length = n := by rfl) : Takes X (fun c d σ H => σ.length = n → W c d σ H) := fun u s' ⟨a, B, sI, pins, σ, H, cls, d, e, I, nb, up, sky, na, os, ag, w⟩ =>
  tk u s' ⟨a, B, sI, pins, σ, H, cls, d, e, I, nb, up, sky, na, os, ag, w (by rw [I.len]; exact hn)⟩
theorem caught_gives {X : Cx} (T : Tx X.prog X.w X.K X.mg) (g : Addr) (cdg : Value) (q : Str) : LamX.GivesTo X N__law_caught "_law_caught" (defScope (top 68)) g cdg (defBody (top 68)) "_law_work" q (TCaught X.K) := by
  intro f c' s H Q tl act hc h
  have S := sc__law_caught
  have nm : ∀ {x : Str} {C : Addr}, (defScope (top 68)).names.lookup x = some .globalImplicit → (x == ("__debug__" : Str)) = false → X.mg x = some (.ref C) → Names (cxOf C8.CX0 X.prog X.w X.K X.mg X.base N__law_caught "_law_caught" (defScope (top 68)) g cdg X.A X.stack s H C8.E0).nox x (.ref C) := fun h1 h2 h3 => ⟨h1, h2, .inl h3⟩
  refine ⟨_, pss_cons (ps_set (i := 1) S.nd rfl (Or.inl rfl) pe_non) (pss_cons (ps_try_nth (i := 2) (tb := fun W D σ H => ∃ E : XK, (∀ cls d σ' H', σ'.length = 3 → E cls d H' → W cls d σ' H') ∧
      (tAsg (tTup (tCons (tC (.str "value")) (tCons (fun σZ HZ Q => σZ[0]? = some (some (.ref f)) ∧ HZ c' = some (LamX.CodeO c' q) ∧ tl E HZ Q) tNil))) (gName 1)) D σ H) rfl rfl S.nd rfl rfl (C := aBE X.K) (.skip (nm (by rfl) (by decide) T.g_BadDeed) T.em_BadDeed (.hit (nm (by rfl) (by decide) T.g_BadEntry) T.em_BadEntry (fun a oe d pn hz hf => pss_one (ps_set (i := 1) S.nd rfl (Or.inl rfl) (pe_tup (pa_cons pe_str (pa_cons (pe_xf T.xf_BadEntry T.xa_BadEntry hz hf (pv 2)) pa_nil))))))) (fun W pn xe tk => ?_)) (pss_one (ps_ret (pv 1)))), ?_⟩
  · refine ⟨fun pins s' σ H' D I h' => ?_⟩
    obtain ⟨E, hW, h2⟩ := h'
    exact (pss_one (ps_set (i := 1) S.nd rfl (Or.inl rfl) (pe_tup (pa_cons pe_str (pa_cons (act (fun cls d σ' H' => σ'.length = 3 → W cls d σ' H') pn xe E _ _ (takes_len tk) (fun cls d σ' H' e l => hW cls d σ' H' l e)) pa_nil))))).run pins s' σ H' D I h2
  · refine ⟨ECaught X.K Q, fun cls d σ' H' l e => ?_, rfl, hc, h _ fun v H' hv => ⟨sz2, fun t ht => ⟨_, rfl, hv t ht⟩⟩⟩
    obtain ⟨rfl, dd, i, rfl, hd, k⟩ := e
    refine ⟨rfl, fun a ha => ?_⟩
    match σ', l with
    | [b0, b1, b2], _ => exact ⟨_, rfl, rfl, rfl, dd, _, _, rfl, hd, look_eq, sz2, fun t ht => ⟨_, rfl, k t ht⟩⟩
end Mw
/-! WX: the table of code objects changes, all else stands -/
namespace Mw
open PySem PySem.Spec PyProof.Rows L2 LamX
/-- the table at P tells code objects of the name q alone, and they stand -/
def TabIn (B M : Hp) (P : Addr) (q : Str) : Prop := ∃ ps : Array Value, M P = some (.tbl ps) ∧ TriplesOk ps.toList ∧ ∀ (pos : Pos) (cv : Value), codeAmong pos ps.toList = some cv → ∃ c, cv = .ref c ∧ (B c = some (CodeO c q) ∨ M c = some (CodeO c q))
theorem TabIn.at {B M H : Hp} {P : Addr} {q : Str} (t : TabIn B M P q) (w : Wd B M H) : TabS H P q := by
  obtain ⟨ps, h1, h2, h3⟩ := t
  refine ⟨ps, w.m _ _ h1, h2, fun pos cv h => ?_⟩
  obtain ⟨c, e, h⟩ := h3 pos cv h
  exact ⟨c, e, h.elim (fun h => w.b _ _ h) (fun h => w.m _ _ h)⟩
theorem code_tbl {c : Addr} {q : Str} {ps : Array Value} : CodeO c q ≠ .tbl ps := fun z => by
  have z' : HO.ext _ = HO.tbl ps := z
  cases z'
/-- a change of M elsewhere -/
theorem TabIn.mono {B B' M M' : Hp} {P : Addr} {q : Str} (t : TabIn B M P q) (s : Same B B') (hP : ∀ ps, M P = some (.tbl ps) → M' P = some (.tbl ps)) (hc : ∀ c, M c = some (CodeO c q) → M' c = some (CodeO c q)) : TabIn B' M' P q := by
  obtain ⟨ps, h1, h2, h3⟩ := t
  refine ⟨ps, hP _ h1, h2, fun pos cv h => ?_⟩
  obtain ⟨c, e, h⟩ := h3 pos cv h
  exact ⟨c, e, h.imp (s _ _) (hc _)⟩
open Classical in
/-- what stands for good behind the making of a lambda -/
noncomputable def codes (B M H1 : Hp) (q : Str) : Hp := fun b => if H1 b = some (CodeO b q) ∧ M b = none then some (CodeO b q) else match B b with
  | some (.tbl _) => none
  | o => o
theorem codes_ext {B M H H1 : Hp} {q : Str} (w : Wd B M H) (e : ExtN H H1) : ExtN B (codes B M H1 q) := fun b o h n => by
  unfold codes
  split
  · rename_i z
    have h1 := e b o (w.b _ _ h) n
    rw [z.1] at h1
    exact h1
  · rw [h]
    cases o with
    | tbl ps => exact absurd rfl (n ps)
    | _ => rfl
theorem codes_some {B M H1 : Hp} {q : Str} {b : Addr} {o : HO} (h : codes B M H1 q b = some o) : (H1 b = some (CodeO b q) ∧ M b = none ∧ o = CodeO b q) ∨ (B b = some o ∧ ∀ ps, o ≠ .tbl ps) := by
  unfold codes at h
  split at h
  · rename_i z
    exact .inl ⟨z.1, z.2, (Option.some.inj h).symm⟩
  · refine .inr ?_
    split at h
    · cases h
    · rename_i n
      exact ⟨h, fun ps z => by rw [z] at h; exact n ps h⟩
theorem codes_nt {B M H1 : Hp} {q : Str} {b : Addr} {ps : Array Value} : codes B M H1 q b ≠ some (.tbl ps) := fun h => by
  rcases codes_some h with ⟨_, _, z⟩ | ⟨_, z⟩
  · exact code_tbl z.symm
  · exact z ps rfl
/-- behind the making of a lambda -/
theorem after_lam {B M H H1 : Hp} {P : Addr} {q : Str} (w : Wd B M H) (tb : TabIn B M P q) (hm : ∀ b ps, M b = some (.tbl ps) → b = P) (e : ExtN H H1) (t : TabS H1 P q) :
    ∃ ps, Wd (codes B M H1 q) (upd M P (.tbl ps)) H1 ∧ TabIn (codes B M H1 q) (upd M P (.tbl ps)) P q := by
  obtain ⟨ps, h1, h2, h3⟩ := t
  obtain ⟨ps0, hp0, _⟩ := tb
  refine ⟨ps, ⟨fun b o h => ?_, fun b o h => ?_, fun b o h => ?_⟩, ps, upd_same, h2, fun pos cv hc => ?_⟩
  · rcases codes_some h with ⟨z1, _, z⟩ | ⟨z1, z2⟩
    · rw [z]
      exact z1
    · exact e b o (w.b _ _ z1) z2
  · by_cases q' : b = P
    · subst q'
      rw [upd_same] at h
      rw [h1, h]
    · rw [upd_ne q'] at h
      exact e b o (w.m _ _ h) (fun ps z => by rw [z] at h; exact q' (hm b ps h))
  · rcases codes_some h with ⟨z1, z2, z⟩ | ⟨z1, z2⟩
    · rw [upd_ne (fun q' => by rw [q', h1] at z1; exact code_tbl (Option.some.inj z1).symm)]
      exact z2
    · rw [upd_ne (fun q' => by
        have := w.d _ _ z1
        rw [q', hp0] at this
        cases this)]
      exact w.d _ _ z1
  · obtain ⟨c, ec, hcc⟩ := h3 pos cv hc
    refine ⟨c, ec, ?_⟩
    by_cases hn : M c = none
    · refine .inl ?_
      unfold codes
      rw [if_pos ⟨hcc, hn⟩]
    · refine .inr ?_
      have cP : c ≠ P := fun z => by
        rw [z, h1] at hcc
        exact code_tbl (Option.some.inj hcc).symm
      rw [upd_ne cP]
      cases hq : M c with
      | none => exact absurd hq hn
      | some o =>
        have nt : ∀ ps, o ≠ .tbl ps := fun ps z => by
          rw [z] at hq
          exact cP (hm c ps hq)
        have := e c o (w.m _ _ hq) nt
        rw [hcc] at this
        exact this.symm
/-! ### what stands without tables -/
section
variable {K : PySem.W.Frag} {H H' : Hp} (e : ExtN H H')
include e
theorem ents_ext {vs : List V} {es : List Ent} (h : Paired (EntAt H) vs es) : Paired (EntAt H') vs es := Paired.mapP h fun v x h => by
  obtain ⟨a, h1, h2⟩ := h
  exact ⟨a, h1, e _ _ h2 fun _ z => by cases z⟩
theorem deeds_ext {vs : List V} {ds : List Deed} (h : Paired (DeedAt H) vs ds) : Paired (DeedAt H') vs ds := Paired.mapP h fun v x h => by
  obtain ⟨a, h1, h2⟩ := h
  exact ⟨a, h1, e _ _ h2 fun _ z => by cases z⟩
theorem ShAt.ext {a : Addr} {cs : List Nat} {s : Sh} (h : ShAt H a cs s) : ShAt H' a cs s := by
  obtain ⟨lt, la, ta, ea, refs, h1, h2, h3, h4, h5⟩ := h
  exact ⟨lt, la, ta, ea, refs, e _ _ h1 (fun _ z => by cases z), e _ _ h2 (fun _ z => by cases z), e _ _ h3 (fun _ z => by cases z), e _ _ h4 (fun _ z => by cases z), ents_ext e h5⟩
theorem SpellerAt.ext {a : Addr} {es : List Ent} {p : Sl} (h : SpellerAt K H a es p) : SpellerAt K H' a es p := by
  obtain ⟨dx, u, sa, h1, ⟨refs, h2, h3⟩, ⟨dx', h4⟩⟩ := h
  exact ⟨dx, u, sa, e _ _ h1 (fun _ z => by cases z), ⟨refs, e _ _ h2 (fun _ z => by cases z), ents_ext e h3⟩, ⟨dx', e _ _ h4 (fun _ z => by cases z)⟩⟩
theorem MoHd.ext {a : Addr} {s : Sh} {d b : V} (h : MoHd K H a s d b) : MoHd K H' a s d b := by
  obtain ⟨dx, sp, h1, h2⟩ := h
  exact ⟨dx, sp, e _ _ h1 (fun _ z => by cases z), h2.ext e⟩
theorem MomAt.ext : ∀ {c : Chain} {a : Addr} {s0 : Sh}, MomAt K H a c s0 → MomAt K H' a c s0
  | [], _, _, h => MoHd.ext e h
  | (_, _) :: _, _, _, ⟨da, b, h1, h2, h3⟩ => ⟨da, b, h1.ext e, e _ _ h2 (fun _ z => by cases z), MomAt.ext h3⟩
end
end Mw
/-! W29: a move -/
namespace Mw
open PySem PySem.Spec PyProof.Rows L2
/-- the code object of the def at f -/
def cdOf (K : PySem.W.Frag) (f : Addr) : Value := match K.lookup f with
  | some ⟨_, _, .func fd, _⟩ => fd.code
  | _ => .none
section
variable {P : Program} {w : World} {K : PySem.W.Frag} {mg : Str → Option Value} {base : Heap}
/-- mkCl0, the code object told -/
theorem mkClC {x : Str} {st : Stmt} {f : Addr} {N ps : List Str} {k : Nat} {sp : Sp} (F : ∃ fd, FunD K x x (defArgs st) (defBody st) (defScope st) [] [] f fd) (hm : mg x = some (.ref f)) (S : FnScope N ps (defScope st))
    (hb : ∀ (kV doc pm : Value) (an : Option Addr) (cdv ct : Value) (us : List Value), us.length = ps.length → bindArgs (PySem.W.fnOf x x (defArgs st) (defBody st) (defScope st) .none kV doc pm an cdv ct) ⟨us, []⟩ = pure (ps.zip us))
    (len : ∀ vs H Q E, sp vs H Q E → vs.length = ps.length)
    (hbody : ∀ (cdv : Value), cdv = cdOf K f → ∀ (A : Around) (outer : List Env) (s : Shared) (H : Hp) (vs : List V) (Q : VK) (E : XK), Room k (A.deeper (envOfC x (defScope st) s.heap.objs.size f cdv)) → sp vs H Q E →
      ∃ t, PSs (cxOf CX0 P w K mg base N x (defScope st) f cdv A outer s H E).nox (defBody st) t ∧ t { nx := fun _ H' => Q .non H', rt := Q } (L2.start N vs) H) : Cl P w K mg base CX0 (k + 1) x sp := by
  obtain ⟨fd, F⟩ := F
  have b := F.bindsN hb
  have kp := F.kp
  obtain ⟨oc, od, dV, kV, doc, pm, an, cdv, ct, osl, rfl, lk, hcd, _, _⟩ := F.ex
  refine ⟨f, _, ps, fn_of lk hcd S len fun A outer s H vs Q E hr h => ?_, hm, kp, b⟩
  obtain ⟨t, a, b⟩ := hbody cdv (by unfold cdOf; rw [lk]) A outer s H vs Q E hr h
  exact ⟨t, a.nox, b⟩
/-- at v: (sheet, acts so far) of the chain c -/
def PastAt (H : Hp) (s0 : Sh) (v : V) (c : Chain) : Prop := ∃ t a l cs refs, v = .ref t ∧ H t = some (.tup [.ref a, .ref l]) ∧ ShAt H a cs (cur c s0) ∧ H l = some (.lst refs) ∧ Paired (DeedAt H) refs (c.map Prod.fst).reverse
/-- the texts are no longer than four letters for each step -/
def LenOk : Chain → Sh → Prop
  | [], s0 => s0.x = []
  | (_, s) :: r, s0 => s.x.length ≤ 4 * (r.length + 1) ∧ LenOk r s0
theorem LenOk.cur {c : Chain} {s0 : Sh} (h : LenOk c s0) : (cur c s0).x.length ≤ 4 * c.length := by
  cases c with
  | nil => rw [show (Mw.cur [] s0).x = [] from h]; exact Nat.zero_le _
  | cons q r => exact h.1
/-- the tails of a chain, the shortest first -/
def tails : Chain → List Chain
  | [] => [[]]
  | q :: c => tails c ++ [q :: c]
theorem drw_put {x : Dx} {B M H : Hp} {sb : Addr} {o : HO} (w : Drw x B M H) (h : M sb = some o) : ∃ d, Wd B (DrH x M d) H ∧ (DrH x M d) sb = some o ∧ ∀ B' o' H', Same B B' → Wd B' (upd (DrH x M d) sb o') H' → Drw x B' (upd M sb o') H' := by
  obtain ⟨d, w⟩ := w
  have n1 : sb ≠ x.d := ne_of_none h w.md
  have n2 : sb ≠ x.l := ne_of_none h w.ml
  refine ⟨d, w.w, by rw [DrH_ne n1 n2]; exact h, fun B' o' H' sB w' => Drw.of w sB (by rw [upd_ne (Ne.symm n1)]; exact w.md) (by rw [upd_ne (Ne.symm n2)]; exact w.ml) ?_⟩
  unfold DrH at w' ⊢
  rw [upd_comm (Ne.symm n2), upd_comm (Ne.symm n1)] at w'
  exact w'
theorem tails_len : ∀ c : Chain, (tails c).length = c.length + 1
  | [] => rfl
  | q :: c => by
    show (tails c ++ [q :: c]).length = _
    rw [List.length_append, tails_len c]
    rfl
theorem PastAt.mono {H H' : Hp} {s0 : Sh} {v : V} {c : Chain} (h : PastAt H s0 v c) (e : Same H H') : PastAt H' s0 v c := by
  obtain ⟨t, a, l, cs, refs, h1, h2, h3, h4, h5⟩ := h
  exact ⟨t, a, l, cs, refs, h1, e _ _ h2, h3.mono e, e _ _ h4, deeds_mono h5 e⟩
theorem PastAt.ext {H H' : Hp} {s0 : Sh} {v : V} {c : Chain} (h : PastAt H s0 v c) (e : LamX.ExtN H H') : PastAt H' s0 v c := by
  obtain ⟨t, a, l, cs, refs, h1, h2, h3, h4, h5⟩ := h
  exact ⟨t, a, l, cs, refs, h1, e _ _ h2 (fun _ z => by cases z), h3.ext e, e _ _ h4 (fun _ z => by cases z), deeds_ext e h5⟩
theorem paired_snoc_inv {α β : Type} {F : α → β → Prop} {l : List α} {m : List β} {b : β} (p : Paired F l (m ++ [b])) : ∃ l' a, l = l' ++ [a] ∧ Paired F l' m ∧ F a b := by
  have q := paired_rev p
  rw [List.reverse_append, List.reverse_singleton, List.singleton_append] at q
  cases hl : l.reverse with
  | nil => rw [hl] at q; cases q
  | cons a r =>
    rw [hl] at q
    cases q with
    | cons h1 h2 =>
      refine ⟨r.reverse, a, ?_, ?_, h1⟩
      · rw [← List.reverse_reverse l, hl, List.reverse_cons]
      · have := paired_rev h2
        rwa [List.reverse_reverse] at this
/-- without tables -/
def nt (B : Hp) : Hp := fun b => match B b with
  | some (.tbl _) => none
  | o => o
theorem nt_ext (B : Hp) : LamX.ExtN B (nt B) := fun b o h n => by
  unfold nt
  rw [h]
  cases o with
  | tbl ps => exact absurd rfl (n ps)
  | _ => rfl
theorem nt_sub {B : Hp} {b : Addr} {o : HO} (h : nt B b = some o) : B b = some o := by
  unfold nt at h
  split at h
  · cases h
  · exact h
theorem nt_no {B : Hp} (b : Addr) (ps : Array Value) : nt B b ≠ some (.tbl ps) := fun h => by
  have h2 := nt_sub h
  unfold nt at h
  rw [h2] at h
  cases h
theorem Wd.nt {B M H : Hp} (w : Wd B M H) : Wd (Mw.nt B) M H := ⟨fun a o h => w.b _ _ (nt_sub h), w.m, fun a o h => w.d _ _ (nt_sub h)⟩
theorem Drw.nt {x : Dx} {B M H : Hp} (w : Drw x B M H) : Drw x (Mw.nt B) M H := by
  obtain ⟨d, w⟩ := w
  exact ⟨d, w.ok, w.md, w.ml, w.dl, nt_ext B _ _ w.c (fun _ z => by cases z), w.w.nt⟩
theorem ext_of_same {B B' : Hp} (s : Same B B') : LamX.ExtN B B' := fun b o h _ => s b o h
theorem past_ext {H H' : Hp} {s0 : Sh} {vs : List V} {l : List Chain} (h : Paired (PastAt H s0) vs l) (e : LamX.ExtN H H') : Paired (PastAt H' s0) vs l := Paired.mapP h fun _ _ h => h.ext e
theorem TabIn.nt {B M : Hp} {P : Addr} {q : Str} (t : TabIn B M P q) : TabIn (Mw.nt B) M P q := by
  obtain ⟨ps, h1, h2, h3⟩ := t
  refine ⟨ps, h1, h2, fun pos cv h => ?_⟩
  obtain ⟨c, e, h⟩ := h3 pos cv h
  exact ⟨c, e, h.imp (fun h => nt_ext B _ _ h (fun _ => code_tbl)) id⟩
theorem cutV_m1 {xs : List V} {v : V} : cutV (xs ++ [v]) none (some (-1)) = xs := by
  have e : cutV (xs ++ [v]) none (some (-1)) = cutV (xs ++ [v]) none (some ((xs.length : Nat) : Int)) := by
    have h1 : HT.sIx (xs ++ [v]).length (xs ++ [v]).length (some (-1)) = HT.sIx (xs ++ [v]).length (xs ++ [v]).length (some ((xs.length : Nat) : Int)) := by
      unfold HT.sIx
      simp only [List.length_append, List.length_singleton]
      rw [if_pos (by decide), if_neg (by omega)]
      omega
    unfold cutV
    rw [h1]
  rw [e, cutV_to, List.take_left']
  rfl
theorem code_ins {c C dx : Addr} {q : Str} {fs : List (Str × V)} : LamX.CodeO c q ≠ .ins C dx fs := fun z => by
  have z' : HO.ext _ = HO.ins C dx fs := z
  cases z'
theorem code_lst {c : Addr} {q : Str} {xs : List V} : LamX.CodeO c q ≠ .lst xs := fun z => by
  have z' : HO.ext _ = HO.lst xs := z
  cases z'
theorem code_dK {c : Addr} {q : Str} {kvs : List (Key × V)} : LamX.CodeO c q ≠ .dK kvs := fun z => by
  have z' : HO.ext _ = HO.dK kvs := z
  cases z'
theorem tails_last (c : Chain) : ∃ l, tails c = l ++ [c] := by
  cases c with
  | nil => exact ⟨[], rfl⟩
  | cons q r => exact ⟨_, rfl⟩
theorem drw_wd {x : Dx} {B M H : Hp} (w : Drw x B M H) : ∃ d, Wd B (DrH x M d) H ∧ ∀ B' H', Same B B' → Wd B' (DrH x M d) H' → Drw x B' M H' := by
  obtain ⟨d, w⟩ := w
  exact ⟨d, w.w, fun B' H' sB w' => Drw.of w sB w.md w.ml w'⟩
theorem passLam {X : Cx} {A : Around} {outer : List Env} {s : Shared} {H : Hp} {E : XK} {scope : Scope} {f c' : Addr} : Passes (L2.CX X.prog X.w) (LamX.lamCx X A outer s H E scope f c') E := passes_call (takes_of rfl rfl rfl rfl) fun _ _ _ _ h => h
def N__law_moved : List Str := ["_law_draw", "_law_bench", "_law_past", "_law_sheet_here", "_law_acts", "_law_act_here", "_law_later", "_law_found", "_law_fault_here"]
theorem sc__law_moved : FnScope N__law_moved ["_law_draw", "_law_bench", "_law_past"] (defScope (top 69)) := ⟨rfl, rfl, rfl, by decide +kernel, rfl, by decide +kernel, by decide +kernel⟩
def spMoved (K : PySem.W.Frag) (Pt : Addr) : Sp := fun vs H Q _ => ∃ (x : Dx) (B M : Hp) (sb la dx org now : Addr) (c : Chain) (s0 : Sh) (refs : List V), vs = [.ref x.d, .ref sb, .ref la] ∧ Drw x B M H ∧ M sb = some (.ins (aSe K) dx (seF org now)) ∧ MomAt K B now c s0 ∧ ChOk c s0 ∧ c.length ≤ 95 ∧ LenOk c s0 ∧
  B la = some (.lst refs) ∧ Paired (PastAt B s0) refs (tails c) ∧ TabIn B M Pt "_law_moved.<locals>.<lambda>" ∧ (∀ b ps, M b = some (.tbl ps) → b = Pt) ∧ (∀ b ps, B b ≠ some (.tbl ps)) ∧
  ∀ B' M' lb now' c' refs' H', LamX.ExtN B B' → Drw x B' M' H' → (∀ b, b ≠ sb → b ≠ Pt → M' b = M b) → M' sb = some (.ins (aSe K) dx (seF org now')) → MomAt K B' now' c' s0 → ChOk c' s0 → c'.length ≤ c.length + 1 → LenOk c' s0 →
    B' lb = some (.lst refs') → Paired (PastAt B' s0) refs' (tails c') → TabIn B' M' Pt "_law_moved.<locals>.<lambda>" → (∀ b ps, B' b ≠ some (.tbl ps)) → Q (.ref lb) H'
theorem c__law_moved (T : Tx P w K mg) {cP : Addr × Addr} (hC : cdOf K (He.ga K "_law_moved") = .ref cP.1) (TB : LamX.TabB base mg cP.1 cP.2) : Cl P w K mg base CX0 20 "_law_moved" (spMoved K cP.2) := by
  have S := sc__law_moved
  have c__law_take := @c__law_take P w K mg base T
  have c__law_act := @c__law_act P w K mg base T
  have c__law_done := @c__law_done P w K mg base T
  have c_Session_do := @c_Session_do P w K mg base T
  refine mkClC T.d__law_moved T.gf__law_moved S (fun _ _ _ _ _ _ us hl => match us, hl with | [_, _, _], _ => rfl) (fun vs H Q E h => ?_) (fun cdv ecd A outer s H vs Q E hr h => ?_)
  · obtain ⟨x, B, M, sb, la, dx, org, now, c, s0, refs, rfl, _⟩ := h
    rfl
  · obtain ⟨x, B, M, sb, la, dx, org, now, c, s0, refs, rfl, dw, hsb, hm, cok, lc, lok, hla, pp, tb, mt, bt, k⟩ := h
    have hu := hu_of hr
    obtain ⟨fdg, Fg⟩ := T.d__law_caught
    have kpg := Fg.kp
    have bg := Fg.bindsN (ps := ["_law_work"]) (fun _ _ _ _ _ _ us hl => match us, hl with | [_], _ => rfl)
    obtain ⟨oc, od, dV, kV, doc, pm, an, cdvg, ct, osl, rfl, lkg, hcg, _, _⟩ := Fg.ex
    have hcode : (cxOf CX0 P w K mg base N__law_moved "_law_moved" (defScope (top 69)) (He.ga K "_law_moved") cdv A outer s H E).nox.env.code = .ref cP.1 := ecd.trans hC
    have tabq : ∀ p ∈ [(cP.2, ("_law_moved.<locals>.<lambda>" : Str))], p.1 = cP.2 → p.2 = ("_law_moved.<locals>.<lambda>" : Str) := fun p hp _ => by rw [List.mem_singleton.mp hp]
    have hr2 : Room (17 + 2) (cxOf CX0 P w K mg base N__law_moved "_law_moved" (defScope (top 69)) (He.ga K "_law_moved") cdv A outer s H E).nox.A := hr
    refine ⟨_, (pss_cons (ps_if (PW.pt (pw_and (pt_cmpR op_gt (pe_callB call_len_seq rfl T.n_len bt_len (pa_cons (pv 2) pa_nil)) pe_int (nomark _)) (pw_and1 (pt_cmpR op_eq (pe_f c__law_take hr (by decide) rfl pass0 (pa_cons (pv 0) (pa_cons pe_int pa_nil))) pe_int (nomark _))))) (pss_cons (ps_expr (pe_m c_Session_do hr (by decide) passN (pv 1) (pa_cons (pe_tup (pa_cons pe_str pa_nil)) pa_nil)))
    (pss_one (ps_ret (pe_slice sl_list (pv 2) po_none (po_some (pe_un un_neg pe_int)))))) pss_nil)
    (pss_cons (ps_asg (pe_ix ix_list (pv 2) (pe_un un_neg pe_int) (fun _ _ => rfl)) (pg_tup rfl (pgs_cons (pg_name (i := 3) S.nd rfl (Or.inl rfl)) (pgs_cons (pg_name (i := 4) S.nd rfl (Or.inl rfl)) pgs_nil))))
    (pss_cons (ps_set (i := 5) S.nd rfl (Or.inr rfl) (pe_f c__law_act hr (by decide) rfl pass0 (pa_cons (pv 0) (pa_cons (pv 3) pa_nil))))
    (pss_cons (ps_set (i := 6) S.nd rfl (Or.inl rfl) (pe_f c__law_done hr (by decide) rfl pass0 (pa_cons (pv 3) (pa_cons (pv 5) pa_nil))))
    (pss_cons (ps_set (i := 7) S.nd rfl (Or.inl rfl) (LamX.pe_lamcall rfl T.gf__law_caught kpg lkg hcg bg sc__law_caught rfl (Or.inl rfl) (caught_gives T _ _ _) TB hcode (List.mem_singleton.mpr rfl) tabq hr2 (LamX.lamS_by (sc := defScope (top 69)) (by decide +kernel)) (by rfl) (fun _ _ _ _ _ => rfl) (fun A outer s H E f c' hr => (pe_m c_Session_do hr (by decide) passLam (pv 1) (pa_cons (pv 5) pa_nil)))))
    (pss_cons (ps_if (pt_val (pe_callB call_isi rfl T.n_isinstance bt_isinstance (pa_cons (pv 6) (pa_cons (pe_bltn (v := .ty "dict") rfl T.n_dict bt_dict rfl) pa_nil)))) (pss_one (ps_ret (pe_op op_cat (pv 2) (pe_lst (pa_cons (pe_tup (pa_cons (pv 6) (pa_cons (pe_op op_cat (pv 4) (pe_lst (pa_cons (pv 5) pa_nil))) pa_nil))) pa_nil))))) pss_nil)
    (pss_cons (ps_set (i := 8) S.nd rfl (Or.inl rfl) (pe_callTy call_dictD rfl T.n_dict bt_dict (pa_cons (pv 3) pa_nil)))
    (pss_cons (ps_dput hu (pv 8) pe_str pe_str rfl)
    (pss_one (ps_ret (pe_ifExp (pt_cmpR (op_eqD hr.units) (pv 7) (pv 6) (nomark _)) (pv 2) (pe_op op_cat (pv 2) (pe_lst (pa_cons (pe_tup (pa_cons (pv 8) (pa_cons (pv 4) pa_nil))) pa_nil)))))))))))))), ?_⟩
    have hlaH := dw.b _ _ hla
    have ll : refs.length = c.length + 1 := by rw [pp.length, tails_len]
    refine ⟨_, rfl, la, refs, rfl, .inl (SqL.of hlaH), _, _, rfl, rfl, _, rfl, ?_⟩
    rw [ll]
    by_cases hc : c = []
    case' pos =>
      have w1 := dw
      rw [decide_eq_false (show ¬ (1 : Int) < ((c.length + 1 : Nat) : Int) by rw [hc]; decide)]
      refine iteF (iteF ?_)
    case' neg =>
      rw [decide_eq_true (show (1 : Int) < ((c.length + 1 : Nat) : Int) by have := List.length_pos_iff.mpr hc; omega)]
      refine iteT ⟨_, rfl, x, B, M, 4, rfl, dw, by decide, by decide, fun f H1 f0 f1 w1 => ⟨rfl, _, rfl, ite2 (fun q => ?undo) (fun q => ?_)⟩⟩
    case undo =>
      obtain ⟨dd, wd, hsb', back⟩ := drw_put w1 hsb
      obtain ⟨q0, c', rfl⟩ : ∃ q0 c', c = q0 :: c' := List.exists_cons_of_ne_nil hc
      refine ⟨_, rfl, sb, dx, _, rfl, wd.m _ _ hsb', seF_no (by decide +kernel) (by decide +kernel) (by decide +kernel), sz1, fun ta hta => ?_⟩
      have wd2 := wd.new hta (o := .tup [.str "undo"])
      have sB := wd.sb hta (o := .tup [.str "undo"])
      refine ⟨_, _, sb, dx, org, now, ta, q0 :: c', s0, rfl, wd2, hsb', hm.mono sB, cok, none, upd_same, .inl ⟨c', .undo, fun B2 now' o H2 s2 w2 hm2 _ => ?_⟩⟩
      obtain ⟨refs', r1, rfl, pp', _⟩ := paired_snoc_inv (show Paired (PastAt B s0) refs (tails c' ++ [q0 :: c']) from pp)
      have w3 := back _ _ _ (sB.trans s2) w2
      have sB2 := sB.trans s2
      refine ⟨_, rfl, 1, rfl, _, rfl, la, _, rfl, SqL.of (w3.b _ _ (sB2 _ _ hla)), fun lb hlb => ?_⟩
      have w4 := w3.new hlb (o := .lst (cutV (refs' ++ [r1]) none (some (-1))))
      have s4 := w3.sb hlb (o := .lst (cutV (refs' ++ [r1]) none (some (-1))))
      have e4 := (ext_of_same (sB2.trans s4)).trans (nt_ext _)
      have e24 := (ext_of_same s4).trans (nt_ext _)
      have nsP : sb ≠ cP.2 := fun z => by
        obtain ⟨ps, hps, _⟩ := tb
        rw [← z, hsb] at hps
        cases hps
      refine k _ _ lb now' c' refs' _ e4 w4.nt (fun b h1 _ => upd_ne h1) upd_same (hm2.ext e24) cok.2 (by simp; omega) lok.2 (nt_ext _ _ _ (by rw [cutV_m1]; exact upd_same) (fun _ z => by cases z)) (past_ext pp' e4) (TabIn.nt (tb.mono (sB2.trans s4) (fun ps h => by rw [upd_ne (Ne.symm nsP)]; exact h) (fun b h => ?_))) (fun b ps => nt_no b ps)
      rw [upd_ne (fun z => by
        rw [z, hsb] at h
        exact code_ins (Option.some.inj h).symm)]
      exact h
    all_goals
      clear hc
      obtain ⟨tl0, etl⟩ := tails_last c
      rw [etl] at pp
      obtain ⟨refs', r1, rfl, pp', pc⟩ := paired_snoc_inv pp
      obtain ⟨t, a, l, cs, refs2, rfl, ht, hsh, hl, pd⟩ := pc
      have lcur : (cur c s0).x.length ≤ 396 := by have := lok.cur; omega
      refine ⟨_, rfl, 1, rfl, la, _, -1, .ref t, rfl, rfl, SqL.of (w1.b _ _ hla), atI_last _ _, t, _, rfl, SqT.of (w1.b _ _ ht), rfl, _, _, rfl, _, _, rfl, rfl, ?_⟩
      refine ⟨_, rfl, _, rfl, x, B, M, a, cs, cur c s0, rfl, w1, hsh, cok.cur, lcur, fun B2 ad d H2 s2 w2 had dr sm => ?_⟩
      obtain ⟨dd, W2⟩ := w2
      have wd2 := W2.w
      refine ⟨_, rfl, _, rfl, B2, _, a, ad, cs, cur c s0, d, rfl, wd2, hsh.mono s2, cok.cur, had, dr, ?_, ?_⟩
      · intro s' st B3 b H3 s3 w3 hb
        have s23 := s2.trans s3
        have nP1 : cP.2 ≠ x.d := by
          obtain ⟨ps, hps, _⟩ := tb
          exact ne_of_none hps W2.md
        have nP2 : cP.2 ≠ x.l := by
          obtain ⟨ps, hps, _⟩ := tb
          exact ne_of_none hps W2.ml
        have nS1 : sb ≠ x.d := ne_of_none hsb W2.md
        have nS2 : sb ≠ x.l := ne_of_none hsb W2.ml
        have nSP : sb ≠ cP.2 := fun z => by
          obtain ⟨ps, hps, _⟩ := tb
          rw [← z, hsb] at hps
          cases hps
        have tb3 : TabIn B3 (DrH x M dd) cP.2 "_law_moved.<locals>.<lambda>" := tb.mono s23 (fun _ h => by rw [DrH_ne nP1 nP2]; exact h) (fun b h => by rw [DrH_ne (ne_of_none h W2.md) (ne_of_none h W2.ml)]; exact h)
        have mt3 : ∀ b ps, DrH x M dd b = some (.tbl ps) → b = cP.2 := fun b ps h => by
          by_cases q1 : b = x.l
          · rw [q1, DrH_l] at h
            cases h
          · by_cases q2 : b = x.d
            · rw [q2, DrH_d W2.dl] at h
              cases h
            · rw [DrH_ne q2 q1] at h
              exact mt b ps h
        refine ⟨fun p hp => by rw [List.mem_singleton.mp hp]; exact tb3.at w3, fun H4 e4 t4 R hR => ?_⟩
        obtain ⟨ps, w4, tb4⟩ := after_lam w3 tb3 mt3 e4 (t4 _ (List.mem_singleton.mpr rfl))
        have x34 := codes_ext (q := "_law_moved.<locals>.<lambda>") w3 e4
        have hsb4 : (upd (DrH x M dd) cP.2 (.tbl ps)) sb = some (.ins (aSe K) dx (seF org now)) := by rw [upd_ne nSP, DrH_ne nS1 nS2]; exact hsb
        refine ⟨_, rfl, sb, dx, _, rfl, w4.m _ _ hsb4, seF_no (by decide +kernel) (by decide +kernel) (by decide +kernel), _, rfl, _, _, sb, dx, org, now, ad, c, s0, rfl, w4, hsb4, (hm.mono s23).ext x34, cok, some d, x34 _ _ (s3 _ _ had) (fun _ z => by cases z), .inl ⟨(d, s') :: c, .deed st, fun B5 now' o H5 s5 w5 hm5 _ => hR _ _ fun tv htv => ?_⟩⟩
        have w6 := w5.new htv (o := .tup [.str "value", moV o])
        have e06 : LamX.ExtN B (upd B5 tv (.tup [.str "value", moV o])) := (ext_of_same s23).trans (x34.trans (ext_of_same (s5.trans (w5.sb htv))))
        have e36 : LamX.ExtN B3 (upd B5 tv (.tup [.str "value", moV o])) := x34.trans (ext_of_same (s5.trans (w5.sb htv)))
        obtain ⟨lt', b1, b2, b3, br, hb1, _⟩ := id hb
        have hb6 := e36 _ _ hb1 (fun _ z => by cases z)
        refine ⟨_, rfl, _, _, _, _, true, rfl, .ty _, .base (.dK (w6.b _ _ hb6)), kit_ty (by decide +kernel), _, rfl, iteT ?_⟩
        refine ⟨_, rfl, _, rfl, _, rfl, _, rfl, sz1, fun t1 ht1 => ?_⟩
        have w7 := w6.new ht1 (o := .lst [.ref ad])
        have s67 := w6.sb ht1 (o := .lst [.ref ad])
        have hl6 := e06 _ _ hl (fun _ z => by cases z)
        have lr2 : refs2.length = c.length := by rw [pd.length, List.length_reverse, List.length_map]
        refine catL_of w7 (s67 _ _ hl6) upd_same (by rw [lr2]; simp; omega) fun l2 B8 H8 s8 w8 hl2 => ⟨sz2, fun tp htp => ⟨sz1, fun t3 ht3 => ?_⟩⟩
        have w9 := w8.new htp (o := .tup [.ref b, .ref l2])
        have s89 := w8.sb htp (o := .tup [.ref b, .ref l2])
        have w10 := w9.new ht3 (o := .lst [.ref tp])
        have s910 := w9.sb ht3 (o := .lst [.ref tp])
        have hla10 := (s67.trans (s8.trans (s89.trans s910))) _ _ (e06 _ _ hla (fun _ z => by cases z))
        refine catL_of w10 hla10 upd_same (by rw [ll]; simp; omega) fun lb B11 H11 s11 w11 hlb => ?_
        have s611 := s67.trans (s8.trans (s89.trans (s910.trans s11)))
        have x011 : LamX.ExtN B (nt B11) := (e06.trans (ext_of_same s611)).trans (nt_ext _)
        have x311 : LamX.ExtN B3 (nt B11) := (e36.trans (ext_of_same s611)).trans (nt_ext _)
        have x511 : LamX.ExtN B5 (nt B11) := (ext_of_same ((w5.sb htv).trans s611)).trans (nt_ext _)
        have x911 : LamX.ExtN _ (nt B11) := (ext_of_same (s910.trans s11)).trans (nt_ext B11)
        have x811 : LamX.ExtN _ (nt B11) := (ext_of_same (s89.trans (s910.trans s11))).trans (nt_ext B11)
        have eM : upd (upd (DrH x M dd) cP.2 (.tbl ps)) sb (.ins (aSe K) dx (seF org now')) = DrH x (upd (upd M cP.2 (.tbl ps)) sb (.ins (aSe K) dx (seF org now'))) dd := by
          unfold DrH
          rw [upd_comm (Ne.symm nP2), upd_comm (Ne.symm nP1), upd_comm (Ne.symm nS2), upd_comm (Ne.symm nS1)]
        have w12 := w11.nt
        rw [eM] at w12
        have dr12 : Drw x (nt B11) (upd (upd M cP.2 (.tbl ps)) sb (.ins (aSe K) dx (seF org now'))) H11 := ⟨dd, W2.ok, by rw [upd_ne (Ne.symm nS1), upd_ne (Ne.symm nP1)]; exact W2.md, by rw [upd_ne (Ne.symm nS2), upd_ne (Ne.symm nP2)]; exact W2.ml, W2.dl, ((ext_of_same s3).trans x311) _ _ W2.c (fun _ z => by cases z), w12⟩
        have hp : PastAt (nt B11) s0 (.ref tp) ((d, s') :: c) := by
          refine ⟨tp, b, l2, cs, refs2 ++ [.ref ad], rfl, x911 _ _ upd_same (fun _ z => by cases z), hb.ext x311, x811 _ _ hl2 (fun _ z => by cases z), ?_⟩
          rw [List.map_cons, List.reverse_cons]
          exact Paired.snoc (deeds_ext x011 pd) ⟨ad, rfl, ((ext_of_same s3).trans x311) _ _ had (fun _ z => by cases z)⟩
        refine k (nt B11) _ lb now' ((d, s') :: c) _ H11 x011 dr12 (fun b h1 h2 => by rw [upd_ne h1, upd_ne h2]) upd_same (hm5.ext x511) ⟨st, cok⟩ (Nat.le_refl _) ⟨?_, lok⟩ (nt_ext _ _ _ hlb (fun _ z => by cases z)) ?_ ?_ (fun b ps => nt_no b ps)
        · have := st.grow sm
          have := lok.cur
          omega
        · show Paired (PastAt (nt B11) s0) _ (tails c ++ [(d, s') :: c])
          rw [etl]
          exact Paired.snoc (Paired.snoc (past_ext pp' x011) (PastAt.ext ⟨t, a, l, cs, refs2, rfl, ht, hsh, hl, pd⟩ x011)) hp
        · refine TabIn.nt (TabIn.mono (B := codes B3 (DrH x M dd) H4 "_law_moved.<locals>.<lambda>") (M := upd (DrH x M dd) cP.2 (.tbl ps)) tb4 (s5.trans ((w5.sb htv).trans s611)) (fun ps2 h => ?_) (fun b h => ?_))
          · rw [upd_same] at h
            rw [upd_ne (Ne.symm nSP), upd_same]
            exact h
          · by_cases q1 : b = cP.2
            · rw [q1, upd_same] at h
              exact absurd (Option.some.inj h).symm code_tbl
            · rw [upd_ne q1] at h
              have q2 : b ≠ x.l := fun z => by rw [z, DrH_l] at h; exact code_lst (Option.some.inj h).symm
              have q3 : b ≠ x.d := fun z => by rw [z, DrH_d W2.dl] at h; exact code_dK (Option.some.inj h).symm
              rw [DrH_ne q3 q2] at h
              rw [upd_ne (fun z => by rw [z, hsb] at h; exact code_ins (Option.some.inj h).symm), upd_ne q1]
              exact h
      · intro rf B3 tt H3 s3 w3 htt
        have s23 := s2.trans s3
        have nP1 : cP.2 ≠ x.d := by
          obtain ⟨ps, hps, _⟩ := tb
          exact ne_of_none hps W2.md
        have nP2 : cP.2 ≠ x.l := by
          obtain ⟨ps, hps, _⟩ := tb
          exact ne_of_none hps W2.ml
        have nS1 : sb ≠ x.d := ne_of_none hsb W2.md
        have nS2 : sb ≠ x.l := ne_of_none hsb W2.ml
        have nSP : sb ≠ cP.2 := fun z => by
          obtain ⟨ps, hps, _⟩ := tb
          rw [← z, hsb] at hps
          cases hps
        have tb3 : TabIn B3 (DrH x M dd) cP.2 "_law_moved.<locals>.<lambda>" := tb.mono s23 (fun _ h => by rw [DrH_ne nP1 nP2]; exact h) (fun b h => by rw [DrH_ne (ne_of_none h W2.md) (ne_of_none h W2.ml)]; exact h)
        have mt3 : ∀ b ps, DrH x M dd b = some (.tbl ps) → b = cP.2 := fun b ps h => by
          by_cases q1 : b = x.l
          · rw [q1, DrH_l] at h
            cases h
          · by_cases q2 : b = x.d
            · rw [q2, DrH_d W2.dl] at h
              cases h
            · rw [DrH_ne q2 q1] at h
              exact mt b ps h
        refine ⟨fun p hp => by rw [List.mem_singleton.mp hp]; exact tb3.at w3, fun H4 e4 t4 R hR => ?_⟩
        obtain ⟨ps, w4, tb4⟩ := after_lam w3 tb3 mt3 e4 (t4 _ (List.mem_singleton.mpr rfl))
        have x34 := codes_ext (q := "_law_moved.<locals>.<lambda>") w3 e4
        have hsb4 : (upd (DrH x M dd) cP.2 (.tbl ps)) sb = some (.ins (aSe K) dx (seF org now)) := by rw [upd_ne nSP, DrH_ne nS1 nS2]; exact hsb
        refine ⟨_, rfl, sb, dx, _, rfl, w4.m _ _ hsb4, seF_no (by decide +kernel) (by decide +kernel) (by decide +kernel), _, rfl, _, _, sb, dx, org, now, ad, c, s0, rfl, w4, hsb4, (hm.mono s23).ext x34, cok, some d, x34 _ _ (s3 _ _ had) (fun _ z => by cases z), .inr ⟨d, rfl, rf, fun d' H5 hd' s5 hx => ⟨rfl, d', 4, rfl, hx, fun tv htv => ?_⟩⟩⟩
        have w5 := w4.mono s5
        have w6 := w5.new htv (o := .tup [.str "entry", .int 4])
        have e06 : LamX.ExtN B (upd (codes B3 (DrH x M dd) H4 "_law_moved.<locals>.<lambda>") tv (.tup [.str "entry", .int 4])) := (ext_of_same s23).trans (x34.trans (ext_of_same (w5.sb htv)))
        have e36 : LamX.ExtN B3 (upd (codes B3 (DrH x M dd) H4 "_law_moved.<locals>.<lambda>") tv (.tup [.str "entry", .int 4])) := x34.trans (ext_of_same (w5.sb htv))
        have htt6 := e36 _ _ htt (fun _ z => by cases z)
        refine ⟨_, rfl, _, _, _, _, false, rfl, .ty _, .base (.tup (w6.b _ _ htt6)), kit_ty (by decide +kernel), _, rfl, iteF ?_⟩
        obtain ⟨lt', b1, b2, b3, br, hb1, _⟩ := id hsh
        refine ⟨_, rfl, a, _, rfl, .inl (w6.b _ _ (e06 _ _ hb1 (fun _ z => by cases z))), fun fb hfb => ?_⟩
        have w7 := w6.newM hfb (o := .dK (shK b1 b2 b3 (tx (cur c s0).x)))
        refine ⟨_, rfl, fb, _, rfl, DPut.k (k := .inr "text") (w7.m _ _ upd_same) (show 4 < sizeLine by decide), ?_⟩
        have w8 := (w7.put (p := fb) (o := .dK (shK b1 b2 b3 (tx (cur c s0).x))) (o' := .dK (putK (shK b1 b2 b3 (tx (cur c s0).x)) (.inr "text") (.str "!"))) upd_same)
        rw [upd_upd] at w8
        have w9 := w8.less (Same.new (w6.fm hfb))
        refine ⟨_, rfl, _, rfl, .tuple [.str "entry", .int 4], .tuple [.str "entry", .int 4], .tup (SqT.of (w9.b _ _ upd_same)) (.cons (.str _) (.cons (.int _) .nil)), .tup (SqT.of (w9.b _ _ htt6)) (.cons (.str _) (.cons (.int _) .nil)), by decide +kernel, by decide +kernel, ?_⟩
        rw [show PyData.eqv (.tuple [.str "entry", .int 4]) (.tuple [.str "entry", .int 4]) = true by decide +kernel]
        refine ⟨_, rfl, iteT ⟨_, rfl, ?_⟩⟩
        have x06 := e06.trans (nt_ext _)
        have eM : upd (DrH x M dd) cP.2 (.tbl ps) = DrH x (upd M cP.2 (.tbl ps)) dd := by
          unfold DrH
          rw [upd_comm (Ne.symm nP2), upd_comm (Ne.symm nP1)]
        have w12 := w9.nt
        rw [eM] at w12
        refine k _ (upd M cP.2 (.tbl ps)) la now c _ _ x06 ⟨dd, W2.ok, by rw [upd_ne (Ne.symm nP1)]; exact W2.md, by rw [upd_ne (Ne.symm nP2)]; exact W2.ml, W2.dl, (((ext_of_same s3).trans e36).trans (nt_ext _)) _ _ W2.c (fun _ z => by cases z), w12⟩ (fun b h1 h2 => upd_ne h2) (by rw [upd_ne nSP]; exact hsb) (hm.ext x06) cok (Nat.le_succ _) lok (x06 _ _ hla (fun _ z => by cases z)) ?_ ?_ (fun b ps => nt_no b ps)
        · rw [etl]
          exact Paired.snoc (past_ext pp' x06) (PastAt.ext ⟨t, a, l, cs, refs2, rfl, ht, hsh, hl, pd⟩ x06)
        · refine TabIn.nt (TabIn.mono (B := codes B3 (DrH x M dd) H4 "_law_moved.<locals>.<lambda>") (M := upd (DrH x M dd) cP.2 (.tbl ps)) tb4 (w5.sb htv) (fun ps2 h => ?_) (fun b h => ?_))
          · rw [upd_same] at h ⊢
            exact h
          · by_cases q1 : b = cP.2
            · rw [q1, upd_same] at h
              exact absurd (Option.some.inj h).symm code_tbl
            · rw [upd_ne q1] at h ⊢
              have q2 : b ≠ x.l := fun z => by rw [z, DrH_l] at h; exact code_lst (Option.some.inj h).symm
              have q3 : b ≠ x.d := fun z => by rw [z, DrH_d W2.dl] at h; exact code_dK (Option.some.inj h).symm
              rw [DrH_ne q3 q2] at h
              exact h
end
end Mw
/-! W30: is the bench as a new one? -/
namespace Mw
open PySem PySem.Spec PyProof.Rows L2
section
variable {P : Program} {w : World} {K : PySem.W.Frag} {mg : Str → Option Value} {base : Heap}
def N__law_is_as_new : List Str := ["_law_draw", "_law_bench", "_law_sheet_here", "_law_acts", "_law_fresh", "_law_lap", "_law_page"]
theorem sc__law_is_as_new : FnScope N__law_is_as_new ["_law_draw", "_law_bench", "_law_sheet_here", "_law_acts"] (defScope (top 70)) := ⟨rfl, rfl, rfl, by decide +kernel, rfl, by decide +kernel, by decide +kernel⟩
def spAsNew (K : PySem.W.Frag) : Sp := fun vs H Q _ => ∃ (x : Dx) (B M : Hp) (sb a la dx org now : Addr) (c : Chain) (s0 : Sh) (cs : List Nat) (refs : List V), vs = [.ref x.d, .ref sb, .ref a, .ref la] ∧ Drw x B M H ∧ M sb = some (.ins (aSe K) dx (seF org now)) ∧ MomAt K B now c s0 ∧ ChOk c s0 ∧ c.length ≤ 200 ∧
  ShAt B a cs (cur c s0) ∧ B la = some (.lst refs) ∧ Paired (DeedAt B) refs (c.map Prod.fst).reverse ∧ ∀ B' H', Same B B' → Drw x B' M H' → Q (.bl true) H'
theorem c__law_is_as_new (T : Tx P w K mg) : ClG P w K mg base CX0 14 "_law_is_as_new" (spAsNew K) := by
  have S := sc__law_is_as_new
  have c__law_text := @c__law_text P w K mg base T
  have c__law_slips := @c__law_slips P w K mg base T
  have c_Speller := @c_Speller P w K mg base T
  have c_Session_speller := @c_Session_speller P w K mg base T
  have c_Speller___getitem__ := @c_Speller___getitem__ P w K mg base T
  have c_Speller_ranking := @c_Speller_ranking P w K mg base T
  have c__law_stands := @c__law_stands P w K mg base T
  refine mkClG T.d__law_is_as_new T.gf__law_is_as_new S (fun _ _ _ _ _ _ us hl => match us, hl with | [_, _, _, _], _ => rfl) (fun vs H Q E h => ?_) (fun cdv A outer s H vs Q E hr hgd h => ?_)
  · obtain ⟨x, B, M, sb, a, la, dx, org, now, c, s0, cs, refs, rfl, _⟩ := h
    rfl
  · obtain ⟨x, B, M, sb, a, la, dx, org, now, c, s0, cs, refs, rfl, dw, hsb, hm, cok, lc, sa, hla, pd, k⟩ := h
    have hu := hu_of hr
    refine ⟨_, (pss_cons (ps_set (i := 4) S.nd rfl (Or.inl rfl) (pe_n c_Speller hr (by decide) rfl passN (pa_cons (pe_dget hu (pv 2) pe_str (fun _ _ => rfl)) (pa_cons (pe_f c__law_slips hr (by decide) rfl pass0 (pa_cons (pe_dget hu (pv 2) pe_str (fun _ _ => rfl)) pa_nil)) pa_nil))))
    (pss_cons (ps_for PassesOwn.never rfl (pi_range1 (by rfl) T.n_range (pa_cons pe_int pa_nil)) (pg_name (i := 5) S.nd rfl (Or.inl rfl))
    (pss_cons (ps_set (i := 6) S.nd rfl (Or.inl rfl) (pe_f c__law_text hr (by decide) rfl pass0 (pa_cons (pv 0) (pa_cons (pv 2) (pa_cons pe_int pa_nil)))))
    (pss_one (ps_if (PW.pt (pw_or (pt_cmpR op_ne (pe_subO c_Speller___getitem__ T.fn_Speller___getitem__ hr (by decide) pass0 (pe_p c_Session_speller hr (by decide) pass0 (pv 1)) (pv 6)) (pe_subO c_Speller___getitem__ T.fn_Speller___getitem__ hr (by decide) pass0 (pv 4) (pv 6)) (nomark _)) (pw_or1 (pt_cmpR (op_neD hr.units) (pe_m c_Speller_ranking hr (by decide) pass0 (pe_p c_Session_speller hr (by decide) pass0 (pv 1)) (pa_cons (pv 6) pa_nil)) (pe_m c_Speller_ranking hr (by decide) pass0 (pv 4) (pa_cons (pv 6) pa_nil)) (nomark _))))) (pss_one (ps_ret pe_bl)) pss_nil))))
    (pss_one (ps_ret (pe_fG c__law_stands hr hgd (by decide) rfl pass0 (pa_cons (pv 1) (pa_cons (pv 2) (pa_cons (pv 3) pa_nil)))))))), ?_⟩
    have ok := cok.cur
    obtain ⟨lt, la', ta, ea, er, h1, h2, h3, h4, h5⟩ := id sa
    obtain ⟨dd, wd, bk⟩ := drw_wd dw
    refine ⟨_, rfl, a, _, rfl, sh_entries ▸ DGet.k (k := .inr "entries") (wd.b _ _ h1), _, rfl, a, _, rfl, sh_prices ▸ DGet.k (k := .inr "prices") (wd.b _ _ h1), B, _, ta, (cur c s0).p, rfl, wd, h3, ok.p, fun B1 sl H1 s1 w1 hsl nb dx' hb' hd' ne => ?_⟩
    refine speller_made w1 hb' hd' ne (.inl (w1.b _ _ (s1 _ _ h4))) (ents_mono h5 s1) (by rw [List.take_of_length_le ok.es.len]; exact ok.es) (Nat.le_succ_of_le ok.es.len) (.inr ⟨sl, rfl, hsl⟩) (fun _ B2 H2 s2 w2 hnb => ?_) (fun z => absurd ok.es.len (by omega))
    have d2 := bk _ _ (s1.trans s2) w2
    have sB := s1.trans s2
    refine ⟨_, rfl, by decide, by decide, ?_⟩
    refine for_it walk_range (fun i σ H' => (∃ b5 b6, σ = [some (.ref x.d), some (.ref sb), some (.ref a), some (.ref la), some (.ref nb), b5, b6]) ∧ Drw x B2 M H') ⟨⟨_, _, rfl⟩, d2⟩ (fun _ _ _ _ _ => trivial) (fun i _ _ _ H3 hi pv y => ?_) (fun σ H3 pv => ?_)
    · obtain ⟨⟨b5, b6, rfl⟩, d3⟩ := pv
      obtain ⟨rfl, rfl⟩ := y
      refine ⟨_, rfl, _, rfl, x, B2, M, a, cs, 8, rfl, d3, (sa.mono sB).let, lt.az, lt.l10, by decide, fun pg H4 d4 az l8 => ?_⟩
      have axl : AzL pg := ⟨az, by omega⟩
      obtain ⟨dm, bm, hmo⟩ := (hm.mono sB).hd
      obtain ⟨mdx, sp, hn, hsp⟩ := id hmo
      obtain ⟨sdx, su, ssa, hsp1, hsp2, hsp3⟩ := id hsp
      obtain ⟨ndx, nu, nsa, hnb1, hnb2, hnb3⟩ := id hnb
      have at_ : ∀ {H' : Hp}, Drw x B2 M H' → H' sb = some (.ins (aSe K) dx (seF org now)) := fun d => d.m _ _ hsb
      refine ⟨_, rfl, sb, dx, _, rfl, at_ d4, sb, dx, org, now, mdx, sp, _, dm, bm, rfl, at_ d4, d4.b _ _ hn, _, rfl, sp, _, _, rfl, d4.b _ _ hsp1, sp, _, _, pg, rfl, hsp.mono d4.b, ok.es, axl, fun o H5 s5 mo => ?_⟩
      have d5 := d4.mono s5
      refine ⟨_, rfl, _, rfl, nb, _, _, rfl, d5.b _ _ hnb1, nb, _, _, pg, rfl, hnb.mono d5.b, ok.es, axl, fun o2 H6 s6 mo2 => ?_⟩
      have d6 := d5.mono s6
      obtain rfl := mo.unique mo2
      refine ⟨by cases o <;> rfl, _, rfl, ?_⟩
      rw [decide_eq_true rfl]
      refine iteF ?_
      refine ⟨_, rfl, sb, dx, _, rfl, at_ d6, sb, dx, org, now, mdx, sp, _, dm, bm, rfl, at_ d6, d6.b _ _ hn, sp, _, _, rfl, d6.b _ _ hsp1, spF_no (by decide +kernel) (by decide +kernel), _, rfl, sp, _, _, pg, rfl, hsp.mono d6.b, ok.es, axl, fun r1 rf1 rk1 H7 s7 hr1 pr1 ri1 => ?_⟩
      have d7 := d6.mono s7
      refine ⟨_, rfl, nb, _, _, rfl, d7.b _ _ hnb1, spF_no (by decide +kernel) (by decide +kernel), _, rfl, nb, _, _, pg, rfl, hnb.mono d7.b, ok.es, axl, fun r2 rf2 rk2 H8 s8 hr2 pr2 ri2 => ?_⟩
      have d8 := d7.mono s8
      obtain rfl := ri1.unique ri2
      refine ⟨.list (rk1.map tpD), .list (rk1.map tpD), .lst (SqL.of (s8 _ _ hr1)) (dp_tps (Paired.mapP pr1 fun _ _ h => h.monoN (Same.n s8))), .lst (SqL.of hr2) (dp_tps pr2), shaped_tps fun t ht => ri1.az ok.es ht, shaped_tps fun t ht => ri1.az ok.es ht, ?_⟩
      have lay : (PyData.list (rk1.map tpD)).canLay0 = true := (Bool.and_eq_true_iff.mp (shaped_tps fun t ht => ri1.az ok.es ht)).1
      rw [PySem.SeqAt.eqv_refl _ lay]
      exact ⟨_, rfl, iteF ⟨⟨_, _, rfl⟩, d8⟩⟩
    · obtain ⟨⟨b5, b6, rfl⟩, d3⟩ := pv
      obtain ⟨dd3, wd3, bk3⟩ := drw_wd d3
      have hs3 : (DrH x M dd3) sb = some (.ins (aSe K) dx (seF org now)) := by
        obtain ⟨dq, W3⟩ := d3
        rw [DrH_ne (ne_of_none hsb W3.md) (ne_of_none hsb W3.ml)]
        exact hsb
      exact ⟨_, rfl, _, rfl, _, rfl, B2, _, sb, a, la, dx, org, now, c, s0, cs, refs, rfl, wd3, hs3, hm.mono sB, cok, lc, sa.mono sB, sB _ _ hla, deeds_mono pd sB, fun B4 H5 s4 w4 => k _ _ (sB.trans s4) (bk3 _ _ s4 w4)⟩
end
end Mw
/-! W31: what is equal, and what is not -/
namespace Mw
open PySem PySem.Spec PyProof.Rows L2
theorem drw_new {x : Dx} {B B' M H H' : Hp} {a : Addr} {o : HO} {d : DrC} (w : DrW x B M H d) (ha : H a = none) (sB : Same B B') (w' : Wd B' (upd (DrH x M d) a o) H') : DrW x B' (upd M a o) H' d := by
  have n1 : x.d ≠ a := ne_of_none w.hd ha
  have n2 : x.l ≠ a := ne_of_none w.hl ha
  refine ⟨w.ok, by rw [upd_ne n1]; exact w.md, by rw [upd_ne n2]; exact w.ml, w.dl, sB _ _ w.c, ?_⟩
  unfold DrH at w' ⊢
  rw [upd_comm n2, upd_comm n1] at w'
  exact w'
theorem same_up {M N : Hp} {a : Addr} {o : HO} (s : Same M N) (h : M a = none) : Same M (upd N a o) := fun b u e => by
  rw [upd_ne (ne_of_none e h)]
  exact s _ _ e
theorem drH_same {x : Dx} {M N : Hp} {d : DrC} (s : Same M N) : Same (DrH x M d) (DrH x N d) := fun b u e => by
  unfold DrH at e ⊢
  by_cases q1 : b = x.l
  · rw [q1, upd_same] at e ⊢
    exact e
  · rw [upd_ne q1] at e ⊢
    by_cases q2 : b = x.d
    · rw [q2, upd_same] at e ⊢
      exact e
    · rw [upd_ne q2] at e ⊢
      exact s _ _ e
section
variable {P : Program} {w : World} {K : PySem.W.Frag} {mg : Str → Option Value} {base : Heap}
def N__law_equal_right : List Str := ["_law_draw", "_law_origin", "_law_one", "_law_other", "_law_letters_here", "_law_third", "_law_fourth"]
theorem sc__law_equal_right : FnScope N__law_equal_right ["_law_draw", "_law_origin"] (defScope (top 71)) := ⟨rfl, rfl, rfl, by decide +kernel, rfl, by decide +kernel, by decide +kernel⟩
def spEqR (K : PySem.W.Frag) : Sp := fun vs H Q _ => ∃ (x : Dx) (B M : Hp) (o : Addr) (es : List Ent) (p : Sl), vs = [.ref x.d, .ref o] ∧ Drw x B M H ∧ SpellerAt K B o es p ∧ EsOk es ∧ p.Ok ∧ ∀ B' H', Same B B' → Drw x B' M H' → Q (.bl true) H'
theorem c__law_equal_right (T : Tx P w K mg) : Cl P w K mg base CX0 16 "_law_equal_right" (spEqR K) := by
  have S := sc__law_equal_right
  have c__law_letters := @c__law_letters P w K mg base T
  have c_Session := @c_Session P w K mg base T
  have c_Speller := @c_Speller1 P w K mg base T
  have c_Session_do := @c_Session_do P w K mg base T
  have c_Session_do_all := @c_Session_do_all P w K mg base T
  have c_Session_text := @c_Session_text P w K mg base T
  have c_Session_origin := @c_Session_origin P w K mg base T
  have c_Session___eq__ := @c_Session___eq__ P w K mg base T
  have c_Speller___eq__ := @c_Speller___eq__ P w K mg base T
  refine mkCl0 T.d__law_equal_right T.gf__law_equal_right S (fun _ _ _ _ _ _ us hl => match us, hl with | [_, _], _ => rfl) (fun vs H Q E h => ?_) (fun cdv A outer s H vs Q E hr h => ?_)
  · obtain ⟨x, B, M, o, es, p, rfl, _⟩ := h
    rfl
  · obtain ⟨x, B, M, o, es, p, rfl, dw, hsp, eok, pok, k⟩ := h
    have hu := hu_of hr
    refine ⟨_, (pss_cons (ps_par3 (i := 2) (j := 3) (l := 4) (by rfl) S.nd rfl rfl rfl (by decide) (by decide) (by decide) rfl rfl rfl (pa_cons (pe_n c_Session hr (by decide) rfl pass0 (pa_cons (pv 1) pa_nil)) (pa_cons (pe_n c_Session hr (by decide) rfl pass0 (pa_cons (pv 1) pa_nil)) (pa_cons (pe_f c__law_letters hr (by decide) rfl pass0 (pa_cons (pv 0) (pa_cons pe_int pa_nil))) pa_nil))) (by rfl))
    (pss_cons (ps_expr (pe_m c_Session_do_all hr (by decide) pass0 (pv 2) (pa_cons (pe_lst (pa_cons (pe_tup (pa_cons pe_str (pa_cons (pe_ix ix_list (pv 4) pe_int (fun _ _ => rfl)) pa_nil))) (pa_cons (pe_tup (pa_cons pe_str (pa_cons (pe_ix ix_list (pv 4) pe_int (fun _ _ => rfl)) pa_nil))) pa_nil))) pa_nil)))
    (pss_cons (ps_expr (pe_m c_Session_do hr (by decide) passN (pv 3) (pa_cons (pe_tup (pa_cons pe_str (pa_cons (pe_op op_add_str (pe_ix ix_list (pv 4) pe_int (fun _ _ => rfl)) (pe_ix ix_list (pv 4) pe_int (fun _ _ => rfl))) pa_nil))) pa_nil)))
    (pss_cons (ps_par (i := 5) (j := 6) (by rfl) S.nd rfl rfl (by decide) rfl rfl (pa_cons (pe_n c_Session hr (by decide) rfl pass0 (pa_cons (pe_n c_Speller hr (by decide) rfl passN (pa_cons (pe_lst (pa_cons (pe_tup (pa_cons pe_str (pa_cons pe_int pa_nil))) pa_nil)) pa_nil)) pa_nil)) (pa_cons (pe_n c_Session hr (by decide) rfl pass0 (pa_cons (pe_n c_Speller hr (by decide) rfl passN (pa_cons (pe_lst (pa_cons (pe_tup (pa_cons pe_str (pa_cons pe_int pa_nil))) pa_nil)) pa_nil)) pa_nil)) pa_nil)) (by rfl))
    (pss_cons (ps_if (PW.pt (pw_or (pt_cmpR op_ne (pe_p c_Session_text hr (by decide) pass0 (pv 2)) (pe_p c_Session_text hr (by decide) pass0 (pv 3)) (nomark _)) (pw_or (pt_cmpR (op_eqO c_Session___eq__ hr (by decide) pass0) (pv 2) (pv 3) (nomark _)) (pw_or1 (pt_cmpR (op_eqO c_Session___eq__ hr (by decide) pass0) (pv 5) (pv 6) (nomark _)))))) (pss_one (ps_ret pe_bl)) pss_nil)
    (pss_cons (ps_expr (pe_m c_Session_do hr (by decide) passN (pv 5) (pa_cons (pe_tup (pa_cons pe_str (pa_cons pe_str (pa_cons pe_int pa_nil)))) pa_nil)))
    (pss_cons (ps_expr (pe_m c_Session_do hr (by decide) passN (pv 6) (pa_cons (pe_tup (pa_cons pe_str (pa_cons pe_str (pa_cons pe_int pa_nil)))) pa_nil)))
    (pss_cons (ps_expr (pe_m c_Session_do_all hr (by decide) pass0 (pv 3) (pa_cons (pe_lst (pa_cons (pe_tup (pa_cons pe_str pa_nil)) (pa_cons (pe_tup (pa_cons pe_str (pa_cons (pe_ix ix_list (pv 4) pe_int (fun _ _ => rfl)) pa_nil))) (pa_cons (pe_tup (pa_cons pe_str (pa_cons (pe_ix ix_list (pv 4) pe_int (fun _ _ => rfl)) pa_nil))) pa_nil)))) pa_nil)))
    (pss_one (ps_ret (pe_and (pe_cmpR (op_eqO c_Session___eq__ hr (by decide) pass0) (pv 5) (pv 6) (nomark _)) (pe_and (pe_cmpR (op_neO c_Speller___eq__ hr (by decide) pass0 T.ne_Speller T.ob_Speller) (pe_p c_Session_origin hr (by decide) pass0 (pv 5)) (pe_p c_Session_origin hr (by decide) pass0 (pv 6)) (nomark _)) (pe_one (pe_cmpR (op_eqO c_Session___eq__ hr (by decide) pass0) (pv 2) (pv 3) (nomark _))))))))))))))), ?_⟩
    obtain ⟨d0, W0⟩ := dw
    refine ⟨_, rfl, fun x1 dx1 hx1 hd1 ne1 => session_made W0.w hx1 hd1 ne1 hsp fun B1 n1 H1 s1 w1 m1 => ?_⟩
    have W1 := drw_new W0 hx1 s1 w1
    refine ⟨_, rfl, fun x2 dx2 hx2 hd2 ne2 => session_made W1.w hx2 hd2 ne2 (hsp.mono s1) fun B2 n2 H2 s2 w2 m2 => ?_⟩
    have W2 := drw_new W1 hx2 s2 w2
    refine ⟨_, rfl, x, B2, _, 2, rfl, ⟨_, W2⟩, by decide, fun B3 ll cs H3 s3 w3 hll lcs nd az => ?_⟩
    match cs, lcs, nd, az, hll with
    | [c0, c1], _, nd, az, hll =>
      have a0 := az c0 (by simp)
      have a1 := az c1 (by simp)
      have x12 : x1 ≠ x2 := ne_of_none (W1.w.m _ _ (by rw [DrH_ne (ne_of_none W0.hd hx1).symm (ne_of_none W0.hl hx1).symm, upd_same])) hx2
      obtain ⟨d3, W3⟩ := w3
      have s0ok : ShOk (⟨es, p, []⟩ : Sh) := ⟨eok, pok, (fun _ h => nomatch h), (by decide : 0 ≤ 400)⟩
      have hx1d : x1 ≠ x.d := Ne.symm (ne_of_none W0.hd hx1)
      have hx1l : x1 ≠ x.l := Ne.symm (ne_of_none W0.hl hx1)
      have hx2d : x2 ≠ x.d := Ne.symm (ne_of_none W1.hd hx2)
      have hx2l : x2 ≠ x.l := Ne.symm (ne_of_none W1.hl hx2)
      have M2x1 : (DrH x (upd (upd M x1 (.ins (aSe K) dx1 (seF o n1))) x2 (.ins (aSe K) dx2 (seF o n2))) d3) x1 = some (.ins (aSe K) dx1 (seF o n1)) := by rw [DrH_ne hx1d hx1l, upd_ne x12, upd_same]
      have hll3 := W3.w.b _ _ hll
      refine ⟨_, _, _, rfl, _, rfl, x1, dx1, _, rfl, W3.w.m _ _ M2x1, seF_no (by decide +kernel) (by decide +kernel) (by decide +kernel), ?_⟩
      refine ⟨_, rfl, ll, _, _, letV c0, rfl, rfl, SqL.of hll3, atI_nat (j := 0) rfl, sz2, fun t1 ht1 => ?_⟩
      have w4 := W3.w.new ht1 (o := .tup [.str "press", letV c0])
      have b4 := W3.w.sb ht1 (o := .tup [.str "press", letV c0])
      refine ⟨_, rfl, ll, _, _, letV c1, rfl, rfl, SqL.of (w4.b _ _ (b4 _ _ hll)), atI_nat (j := 1) rfl, sz2, fun t2 ht2 => ⟨sz2, fun al hal => ?_⟩⟩
      have w5 := w4.new ht2 (o := .tup [.str "press", letV c1])
      have b5 := w4.sb ht2 (o := .tup [.str "press", letV c1])
      have w6 := w5.new hal (o := .lst [.ref t1, .ref t2])
      have b6 := w5.sb hal (o := .lst [.ref t1, .ref t2])
      have b36 := b4.trans (b5.trans b6)
      have p0 : Stepd (⟨es, p, []⟩ : Sh) (.press [c0]) ⟨es, p, [c0]⟩ := .press ⟨fun c hc => by rw [List.mem_singleton.mp hc]; exact a0, (by decide : 1 ≤ 1000)⟩ (by decide : 0 + 1 ≤ 400)
      have p1 : Stepd (⟨es, p, [c0]⟩ : Sh) (.press [c1]) ⟨es, p, [c0, c1]⟩ := .press ⟨fun c hc => by rw [List.mem_singleton.mp hc]; exact a1, (by decide : 1 ≤ 1000)⟩ (by decide : 1 + 1 ≤ 400)
      refine ⟨_, _, x1, dx1, o, n1, al, [], [(.press [c1], ⟨es, p, [c0, c1]⟩), (.press [c0], ⟨es, p, [c0]⟩)], ⟨es, p, []⟩, [.ref t1, .ref t2], [some (.press [c0]), some (.press [c1])], rfl, w6, M2x1, (m1.mono s2).mono (s3.trans b36), s0ok, upd_same, .cons ⟨t1, rfl, (b5.trans b6) _ _ upd_same⟩ (.cons ⟨t2, rfl, b6 _ _ upd_same⟩ .nil), (by decide : 2 ≤ 1000), .cons (.deed p0) (.cons (.deed p1) .nil), fun v B7 n1' H7 s7 w7 m7 => ?_⟩
      have M7x2 : (upd (DrH x (upd (upd M x1 (.ins (aSe K) dx1 (seF o n1))) x2 (.ins (aSe K) dx2 (seF o n2))) d3) x1 (.ins (aSe K) dx1 (seF o n1'))) x2 = some (.ins (aSe K) dx2 (seF o n2)) := by rw [upd_ne (Ne.symm x12), DrH_ne hx2d hx2l, upd_same]
      have b37 := b36.trans s7
      have hll7 := b37 _ _ hll
      refine ⟨_, rfl, x2, dx2, _, rfl, w7.m _ _ M7x2, seF_no (by decide +kernel) (by decide +kernel) (by decide +kernel), _, rfl, ll, _, _, letV c0, rfl, rfl, SqL.of (w7.b _ _ hll7), atI_nat (j := 0) rfl, _, rfl, ll, _, _, letV c1, rfl, rfl, SqL.of (w7.b _ _ hll7), atI_nat (j := 1) rfl, _, _, rfl, rfl, by rw [tx_len, tx_len]; exact (by decide : 1 + 1 ≤ sizeLine), sz2, fun t3 ht3 => ?_⟩
      rw [SX.S_cat]
      have w8 := w7.new ht3 (o := .tup [.str "press", .str (tx ([c0] ++ [c1]))])
      have b8 := w7.sb ht3 (o := .tup [.str "press", .str (tx ([c0] ++ [c1]))])
      have p01 : Stepd (⟨es, p, []⟩ : Sh) (.press ([c0] ++ [c1])) ⟨es, p, [c0, c1]⟩ := .press ⟨fun c hc => by
        simp only [List.cons_append, List.nil_append, List.mem_cons, List.not_mem_nil, or_false] at hc
        rcases hc with rfl | rfl
        · exact a0
        · exact a1, (by decide : 2 ≤ 1000)⟩ (by decide : 0 + 2 ≤ 400)
      refine ⟨_, _, x2, dx2, o, n2, t3, [], ⟨es, p, []⟩, rfl, w8, M7x2, m2.mono (s3.trans (b37.trans b8)), s0ok, some (.press ([c0] ++ [c1])), upd_same, .inl ⟨_, .deed p01, fun B9 n2' o9 H9 s9 w9 m9 _ => ?_⟩⟩
      have eq3 : EsOk [([113], (3 : Int))] := ⟨by decide, fun e he => by rw [List.mem_singleton.mp he]; exact ⟨by decide, by decide, by decide, by decide, by decide⟩, by decide⟩
      have eq4 : EsOk [([113], (4 : Int))] := ⟨by decide, fun e he => by rw [List.mem_singleton.mp he]; exact ⟨by decide, by decide, by decide, by decide, by decide⟩, by decide⟩
      have eqq : (PySem.Str.ofString "q") = tx [113] := by decide +kernel
      rw [eqq]
      refine ⟨sz2, fun e3 he3 => ⟨sz1, fun l3 hl3 => fun p3 pd3 hp3 hpd3 pne3 => ?_⟩⟩
      have w10 := (w9.new he3 (o := .tup [.str (tx [113]), .int 3])).new hl3 (o := .lst [.ref e3])
      have b10 := (w9.sb he3 (o := .tup [.str (tx [113]), .int 3])).trans ((w9.new he3 (o := .tup [.str (tx [113]), .int 3])).sb hl3 (o := .lst [.ref e3]))
      refine speller_made w10 hp3 hpd3 pne3 (.inl upd_same) (.cons ⟨e3, rfl, (w9.new he3).sb hl3 _ _ upd_same⟩ .nil) eq3 (by decide : 1 ≤ 5) (.inl ⟨rfl, rfl⟩) (fun _ B12 H12 s12 w12 sp3 => ?_) (fun z => absurd z (by decide : ¬ 1 = 5))
      intro y3 yd3 hy3 hyd3 yne3
      refine session_made w12 hy3 hyd3 yne3 sp3 fun B13 n3 H13 s13 w13 m3 => ?_
      refine ⟨sz2, fun e4 he4 => ⟨sz1, fun l4 hl4 => fun p4 pd4 hp4 hpd4 pne4 => ?_⟩⟩
      have w14 := (w13.new he4 (o := .tup [.str (tx [113]), .int 4])).new hl4 (o := .lst [.ref e4])
      have b14 := (w13.sb he4 (o := .tup [.str (tx [113]), .int 4])).trans ((w13.new he4 (o := .tup [.str (tx [113]), .int 4])).sb hl4 (o := .lst [.ref e4]))
      refine speller_made w14 hp4 hpd4 pne4 (.inl upd_same) (.cons ⟨e4, rfl, (w13.new he4).sb hl4 _ _ upd_same⟩ .nil) eq4 (by decide : 1 ≤ 5) (.inl ⟨rfl, rfl⟩) (fun _ B16 H16 s16 w16 sp4 => ?_) (fun z => absurd z (by decide : ¬ 1 = 5))
      intro y4 yd4 hy4 hyd4 yne4
      refine session_made w16 hy4 hyd4 yne4 sp4 fun B17 n4 H17 s17 w17 m4 => ?_
      refine ⟨_, _, rfl, ?_⟩
      have b9 := b8.trans s9
      have b917 := b10.trans (s12.trans (s13.trans (b14.trans (s16.trans s17))))
      have ax1 : ∀ {H' : Hp}, Wd B9 (upd (upd (DrH x (upd (upd M x1 (.ins (aSe K) dx1 (seF o n1))) x2 (.ins (aSe K) dx2 (seF o n2))) d3) x1 (.ins (aSe K) dx1 (seF o n1'))) x2 (.ins (aSe K) dx2 (seF o n2'))) H' → H' x1 = some (.ins (aSe K) dx1 (seF o n1')) := fun w => w.m _ _ (by rw [upd_ne x12, upd_same])
      have ax2 : ∀ {H' : Hp}, Wd B9 (upd (upd (DrH x (upd (upd M x1 (.ins (aSe K) dx1 (seF o n1))) x2 (.ins (aSe K) dx2 (seF o n2))) d3) x1 (.ins (aSe K) dx1 (seF o n1'))) x2 (.ins (aSe K) dx2 (seF o n2'))) H' → H' x2 = some (.ins (aSe K) dx2 (seF o n2')) := fun w => w.m _ _ upd_same
      have ny31 : x1 ≠ y3 := ne_of_none (w12.m _ _ (by rw [upd_ne x12, upd_same])) hy3
      have ny32 : x2 ≠ y3 := ne_of_none (w12.m _ _ upd_same) hy3
      have ny41 : x1 ≠ y4 := ne_of_none (w16.m _ _ (by rw [upd_ne ny31, upd_ne x12, upd_same])) hy4
      have ny42 : x2 ≠ y4 := ne_of_none (w16.m _ _ (by rw [upd_ne ny32, upd_same])) hy4
      have ny43 : y3 ≠ y4 := ne_of_none (w16.m _ _ upd_same) hy4
      have h1 := w17.m _ _ (show _ = some (HO.ins (aSe K) dx1 (seF o n1')) by rw [upd_ne ny41, upd_ne ny31, upd_ne x12, upd_same])
      have h2 := w17.m _ _ (show _ = some (HO.ins (aSe K) dx2 (seF o n2')) by rw [upd_ne ny42, upd_ne ny32, upd_same])
      have h3 := w17.m _ _ (show _ = some (HO.ins (aSe K) yd3 (seF p3 n3)) by rw [upd_ne ny43, upd_same])
      have h4 := w17.m _ _ (show _ = some (HO.ins (aSe K) yd4 (seF p4 n4)) from upd_same)
      have m1' := (m7.mono (b9.trans b917)).mono w17.b
      have m2' := (m9.mono b917).mono w17.b
      have m3' := (m3.mono (b14.trans (s16.trans s17))).mono w17.b
      have m4' := m4.mono w17.b
      obtain ⟨da1, db1, mo1⟩ := m1'.hd
      obtain ⟨mdx1, msp1, hn1, _⟩ := id mo1
      obtain ⟨da2, db2, mo2⟩ := m2'.hd
      obtain ⟨mdx2, msp2, hn2, _⟩ := id mo2
      refine ⟨_, rfl, x1, dx1, _, rfl, h1, x1, dx1, o, n1', mdx1, msp1, _, da1, db1, rfl, h1, hn1, _, rfl, x2, dx2, _, rfl, h2, x2, dx2, o, n2', mdx2, msp2, _, da2, db2, rfl, h2, hn2, rfl, _, rfl, ?_⟩
      refine iteF' (congrArg not (decide_eq_true rfl)) ?_
      have co1 : ChOk [(Deed.press [c1], (⟨es, p, [c0, c1]⟩ : Sh)), (.press [c0], ⟨es, p, [c0]⟩)] ⟨es, p, []⟩ := ⟨p1, p0, s0ok⟩
      have co2 : ChOk [(Deed.press ([c0] ++ [c1]), (⟨es, p, [c0, c1]⟩ : Sh))] ⟨es, p, []⟩ := ⟨p01, s0ok⟩
      have q3ok : ShOk (⟨[([113], 3)], ⟨1, 1, 1, none⟩, []⟩ : Sh) := ⟨eq3, ⟨⟨by decide, by decide⟩, ⟨by decide, by decide⟩, ⟨by decide, by decide⟩, fun _ z => nomatch z⟩, (fun _ h => nomatch h), (by decide : 0 ≤ 400)⟩
      have q4ok : ShOk (⟨[([113], 4)], ⟨1, 1, 1, none⟩, []⟩ : Sh) := ⟨eq4, ⟨⟨by decide, by decide⟩, ⟨by decide, by decide⟩, ⟨by decide, by decide⟩, fun _ z => nomatch z⟩, (fun _ h => nomatch h), (by decide : 0 ≤ 400)⟩
      refine ⟨_, rfl, _, rfl, Oth.same h2, x1, _, _, rfl, h1, x1, dx1, o, n1', _, _, .ref x2, rfl, h1, m1', co1, (by decide : 2 ≤ 1000), .inl ⟨x2, dx2, o, n2', _, _, rfl, h2, m2', co2, (by decide : 1 ≤ 1000), fun H18 s18 => ⟨_, rfl, ?_⟩⟩⟩
      rw [decide_eq_false (fun z => by have := congrArg List.length z.2; simp at this)]
      refine ⟨_, rfl, iteF ?_⟩
      refine ⟨_, rfl, _, rfl, Oth.same (s18 _ _ h4), y3, _, _, rfl, s18 _ _ h3, y3, yd3, p3, n3, [], _, .ref y4, rfl, s18 _ _ h3, m3'.mono s18, q3ok, (by decide : 0 ≤ 1000), .inl ⟨y4, yd4, p4, n4, [], _, rfl, s18 _ _ h4, m4'.mono s18, q4ok, (by decide : 0 ≤ 1000), fun H19 s19 => ⟨_, rfl, ?_⟩⟩⟩
      rw [decide_eq_false (fun z => by have := congrArg Sh.es z.1; simp [cur] at this)]
      refine ⟨_, rfl, iteF ?_⟩
      have w19 := (w17.mono s18).mono s19
      have b17 := b14.trans (s16.trans s17)
      have k1 : (upd (upd (upd (upd (DrH x (upd (upd M x1 (.ins (aSe K) dx1 (seF o n1))) x2 (.ins (aSe K) dx2 (seF o n2))) d3) x1 (.ins (aSe K) dx1 (seF o n1'))) x2 (.ins (aSe K) dx2 (seF o n2'))) y3 (.ins (aSe K) yd3 (seF p3 n3))) y4 (.ins (aSe K) yd4 (seF p4 n4))) x1 = some (.ins (aSe K) dx1 (seF o n1')) := by rw [upd_ne ny41, upd_ne ny31, upd_ne x12, upd_same]
      have k2 : (upd (upd (upd (upd (DrH x (upd (upd M x1 (.ins (aSe K) dx1 (seF o n1))) x2 (.ins (aSe K) dx2 (seF o n2))) d3) x1 (.ins (aSe K) dx1 (seF o n1'))) x2 (.ins (aSe K) dx2 (seF o n2'))) y3 (.ins (aSe K) yd3 (seF p3 n3))) y4 (.ins (aSe K) yd4 (seF p4 n4))) x2 = some (.ins (aSe K) dx2 (seF o n2')) := by rw [upd_ne ny42, upd_ne ny32, upd_same]
      have k3 : (upd (upd (upd (upd (DrH x (upd (upd M x1 (.ins (aSe K) dx1 (seF o n1))) x2 (.ins (aSe K) dx2 (seF o n2))) d3) x1 (.ins (aSe K) dx1 (seF o n1'))) x2 (.ins (aSe K) dx2 (seF o n2'))) y3 (.ins (aSe K) yd3 (seF p3 n3))) y4 (.ins (aSe K) yd4 (seF p4 n4))) y3 = some (.ins (aSe K) yd3 (seF p3 n3)) := by rw [upd_ne ny43, upd_same]
      have k4 : (upd (upd (upd (upd (DrH x (upd (upd M x1 (.ins (aSe K) dx1 (seF o n1))) x2 (.ins (aSe K) dx2 (seF o n2))) d3) x1 (.ins (aSe K) dx1 (seF o n1'))) x2 (.ins (aSe K) dx2 (seF o n2'))) y3 (.ins (aSe K) yd3 (seF p3 n3))) y4 (.ins (aSe K) yd4 (seF p4 n4))) y4 = some (.ins (aSe K) yd4 (seF p4 n4)) := upd_same
      have e17 : Same (DrH x M d3) (upd (upd (upd (upd (DrH x (upd (upd M x1 (.ins (aSe K) dx1 (seF o n1))) x2 (.ins (aSe K) dx2 (seF o n2))) d3) x1 (.ins (aSe K) dx1 (seF o n1'))) x2 (.ins (aSe K) dx2 (seF o n2'))) y3 (.ins (aSe K) yd3 (seF p3 n3))) y4 (.ins (aSe K) yd4 (seF p4 n4))) ∧ (DrH x M d3) x1 = none ∧ (DrH x M d3) x2 = none ∧ (DrH x M d3) y3 = none ∧ (DrH x M d3) y4 = none := by
        have f1 : (DrH x M d3) x1 = none := by
          have := W0.w.fm hx1
          rw [DrH_ne hx1d hx1l] at this ⊢
          exact this
        have f2 : (DrH x M d3) x2 = none := by
          have := W1.w.fm hx2
          rw [DrH_ne hx2d hx2l, upd_ne (Ne.symm x12)] at this
          rw [DrH_ne hx2d hx2l]
          exact this
        have g1 : M x1 = none := by rw [DrH_ne hx1d hx1l] at f1; exact f1
        have g2 : M x2 = none := by rw [DrH_ne hx2d hx2l] at f2; exact f2
        have e0 : Same (DrH x M d3) (DrH x (upd (upd M x1 (.ins (aSe K) dx1 (seF o n1))) x2 (.ins (aSe K) dx2 (seF o n2))) d3) := drH_same (same_up (same_up (Same.refl M) g1) g2)
        have e2 := same_up (o := .ins (aSe K) dx2 (seF o n2')) (same_up (o := .ins (aSe K) dx1 (seF o n1')) e0 f1) f2
        have f3 := e2.free (w12.fm hy3)
        have e3 := same_up (o := .ins (aSe K) yd3 (seF p3 n3)) e2 f3
        have f4 := e3.free (w16.fm hy4)
        exact ⟨same_up e3 f4, f1, f2, f3, f4⟩
      generalize (upd (upd (upd (upd (DrH x (upd (upd M x1 (.ins (aSe K) dx1 (seF o n1))) x2 (.ins (aSe K) dx2 (seF o n2))) d3) x1 (.ins (aSe K) dx1 (seF o n1'))) x2 (.ins (aSe K) dx2 (seF o n2'))) y3 (.ins (aSe K) yd3 (seF p3 n3))) y4 (.ins (aSe K) yd4 (seF p4 n4))) = M17 at *
      obtain ⟨e17, f1, f2, f3, f4⟩ := e17
      have ent7 : EntOk ([113], (7 : Int)) := ⟨by decide, by decide, by decide, by decide, by decide⟩
      have st3 : Stepd (⟨[([113], 3)], ⟨1, 1, 1, none⟩, []⟩ : Sh) (.learn ([113], 7)) ⟨[([113], 7)], ⟨1, 1, 1, none⟩, []⟩ := .old (i := 0) rfl ent7
      have st4 : Stepd (⟨[([113], 4)], ⟨1, 1, 1, none⟩, []⟩ : Sh) (.learn ([113], 7)) ⟨[([113], 7)], ⟨1, 1, 1, none⟩, []⟩ := .old (i := 0) rfl ent7
      refine ⟨_, rfl, y3, yd3, _, rfl, w19.m _ _ k3, seF_no (by decide +kernel) (by decide +kernel) (by decide +kernel), sz3, fun t5 ht5 => ?_⟩
      have w20 := w19.new ht5 (o := .tup [.str "learn", .str (tx [113]), .int 7])
      have b20 := w19.sb ht5 (o := .tup [.str "learn", .str (tx [113]), .int 7])
      refine ⟨_, _, y3, yd3, p3, n3, t5, [], ⟨[([113], 3)], ⟨1, 1, 1, none⟩, []⟩, rfl, w20, k3, m3.mono (b17.trans b20), q3ok, some (.learn ([113], 7)), upd_same, .inl ⟨_, .deed st3, fun B21 n3' o21 H21 s21 w21 m21 _ => ?_⟩⟩
      have k4' : (upd M17 y3 (.ins (aSe K) yd3 (seF p3 n3'))) y4 = some (.ins (aSe K) yd4 (seF p4 n4)) := by rw [upd_ne (Ne.symm ny43)]; exact k4
      refine ⟨_, rfl, y4, yd4, _, rfl, w21.m _ _ k4', seF_no (by decide +kernel) (by decide +kernel) (by decide +kernel), sz3, fun t6 ht6 => ?_⟩
      have w22 := w21.new ht6 (o := .tup [.str "learn", .str (tx [113]), .int 7])
      have b22 := w21.sb ht6 (o := .tup [.str "learn", .str (tx [113]), .int 7])
      refine ⟨_, _, y4, yd4, p4, n4, t6, [], ⟨[([113], 4)], ⟨1, 1, 1, none⟩, []⟩, rfl, w22, k4', m4.mono (b20.trans (s21.trans b22)), q4ok, some (.learn ([113], 7)), upd_same, .inl ⟨_, .deed st4, fun B23 n4' o23 H23 s23 w23 m23 _ => ?_⟩⟩
      have b1723 := b20.trans (s21.trans (b22.trans s23))
      have k2' : (upd (upd M17 y3 (.ins (aSe K) yd3 (seF p3 n3'))) y4 (.ins (aSe K) yd4 (seF p4 n4'))) x2 = some (.ins (aSe K) dx2 (seF o n2')) := by rw [upd_ne ny42, upd_ne ny32]; exact k2
      have hll23 := (b8.trans (s9.trans (b917.trans b1723))) _ _ hll7
      refine ⟨_, rfl, x2, dx2, _, rfl, w23.m _ _ k2', seF_no (by decide +kernel) (by decide +kernel) (by decide +kernel), sz1, fun u1 hu1 => ?_⟩
      have w24 := w23.new hu1 (o := .tup [.str "undo"])
      have b24 := w23.sb hu1 (o := .tup [.str "undo"])
      refine ⟨_, rfl, ll, _, _, letV c0, rfl, rfl, SqL.of (w24.b _ _ (b24 _ _ hll23)), atI_nat (j := 0) rfl, sz2, fun u2 hu2 => ?_⟩
      have w25 := w24.new hu2 (o := .tup [.str "press", letV c0])
      have b25 := w24.sb hu2 (o := .tup [.str "press", letV c0])
      refine ⟨_, rfl, ll, _, _, letV c1, rfl, rfl, SqL.of (w25.b _ _ ((b24.trans b25) _ _ hll23)), atI_nat (j := 1) rfl, sz2, fun u3 hu3 => ⟨sz3, fun al2 hal2 => ?_⟩⟩
      have w26 := w25.new hu3 (o := .tup [.str "press", letV c1])
      have b26 := w25.sb hu3 (o := .tup [.str "press", letV c1])
      have w27 := w26.new hal2 (o := .lst [.ref u1, .ref u2, .ref u3])
      have b27 := w26.sb hal2 (o := .lst [.ref u1, .ref u2, .ref u3])
      have b2327 := b24.trans (b25.trans (b26.trans b27))
      refine ⟨_, _, x2, dx2, o, n2', al2, _, [(.press [c1], ⟨es, p, [c0, c1]⟩), (.press [c0], ⟨es, p, [c0]⟩)], ⟨es, p, []⟩, [.ref u1, .ref u2, .ref u3], [none, some (.press [c0]), some (.press [c1])], rfl, w27, k2', m9.mono (b917.trans (b1723.trans b2327)), co2, upd_same, .cons ⟨u1, rfl, (b25.trans (b26.trans b27)) _ _ upd_same⟩ (.cons ⟨u2, rfl, (b26.trans b27) _ _ upd_same⟩ (.cons ⟨u3, rfl, b27 _ _ upd_same⟩ .nil)), (by decide : 3 ≤ 1000), .cons .undo (.cons (.deed p0) (.cons (.deed p1) .nil)), fun v28 B28 n2'' H28 s28 w28 m28 => ?_⟩
      have b1728 := b1723.trans (b2327.trans s28)
      have bAll : Same B B28 := s1.trans (s2.trans (s3.trans (b37.trans (b8.trans (s9.trans (b917.trans b1728))))))
      have j3 : (upd (upd (upd M17 y3 (.ins (aSe K) yd3 (seF p3 n3'))) y4 (.ins (aSe K) yd4 (seF p4 n4'))) x2 (.ins (aSe K) dx2 (seF o n2''))) y3 = some (.ins (aSe K) yd3 (seF p3 n3')) := by rw [upd_ne (Ne.symm ny32), upd_ne ny43, upd_same]
      have j4 : (upd (upd (upd M17 y3 (.ins (aSe K) yd3 (seF p3 n3'))) y4 (.ins (aSe K) yd4 (seF p4 n4'))) x2 (.ins (aSe K) dx2 (seF o n2''))) y4 = some (.ins (aSe K) yd4 (seF p4 n4')) := by rw [upd_ne (Ne.symm ny42), upd_same]
      have j1 : (upd (upd (upd M17 y3 (.ins (aSe K) yd3 (seF p3 n3'))) y4 (.ins (aSe K) yd4 (seF p4 n4'))) x2 (.ins (aSe K) dx2 (seF o n2''))) x1 = some (.ins (aSe K) dx1 (seF o n1')) := by rw [upd_ne x12, upd_ne ny41, upd_ne ny31]; exact k1
      have eF : Same (DrH x M d3) (upd (upd (upd M17 y3 (.ins (aSe K) yd3 (seF p3 n3'))) y4 (.ins (aSe K) yd4 (seF p4 n4'))) x2 (.ins (aSe K) dx2 (seF o n2''))) := same_up (same_up (same_up e17 f3) f4) f2
      have hc3 : ChOk [(Deed.learn ([113], 7), (⟨[([113], 7)], ⟨1, 1, 1, none⟩, []⟩ : Sh))] ⟨[([113], 3)], ⟨1, 1, 1, none⟩, []⟩ := ⟨st3, q3ok⟩
      have hc4 : ChOk [(Deed.learn ([113], 7), (⟨[([113], 7)], ⟨1, 1, 1, none⟩, []⟩ : Sh))] ⟨[([113], 4)], ⟨1, 1, 1, none⟩, []⟩ := ⟨st4, q4ok⟩
      have m3f := m21.mono ((b22.trans s23).trans (b2327.trans s28))
      have m4f := m23.mono (b2327.trans s28)
      have m1f := m7.mono (b8.trans (s9.trans (b917.trans b1728)))
      have sp3f := sp3.mono (s13.trans (b14.trans (s16.trans (s17.trans b1728))))
      have sp4f := sp4.mono (s17.trans b1728)
      obtain ⟨s3dx, s3u, s3sa, hs31, _, _⟩ := id sp3f
      obtain ⟨s4dx, s4u, s4sa, hs41, _, _⟩ := id sp4f
      refine ⟨_, rfl, _, rfl, Oth.same (w28.m _ _ j4), y3, _, _, rfl, w28.m _ _ j3, y3, yd3, p3, n3', _, _, .ref y4, rfl, w28.m _ _ j3, m3f.mono w28.b, hc3, (by decide : 1 ≤ 1000), .inl ⟨y4, yd4, p4, n4', _, _, rfl, w28.m _ _ j4, m4f.mono w28.b, hc4, (by decide : 1 ≤ 1000), fun H29 s29 => ⟨_, rfl, ?_⟩⟩⟩
      have q34 : sameSes [(Deed.learn ([113], 7), (⟨[([113], 7)], ⟨1, 1, 1, none⟩, []⟩ : Sh))] ⟨[([113], 3)], ⟨1, 1, 1, none⟩, []⟩ [(Deed.learn ([113], 7), (⟨[([113], 7)], ⟨1, 1, 1, none⟩, []⟩ : Sh))] ⟨[([113], 4)], ⟨1, 1, 1, none⟩, []⟩ := ⟨rfl, rfl⟩
      rw [decide_eq_true q34]
      have w29 := w28.mono s29
      refine ⟨_, rfl, iteT ?_⟩
      refine ⟨_, rfl, y3, yd3, _, rfl, w29.m _ _ j3, y3, yd3, _, .ref p3, rfl, w29.m _ _ j3, seF_o, _, rfl, y4, yd4, _, rfl, w29.m _ _ j4, y4, yd4, _, .ref p4, rfl, w29.m _ _ j4, seF_o, ⟨p4, _, _, rfl, w29.b _ _ hs41⟩, p3, _, _, rfl, w29.b _ _ hs31, p3, p4, _, _, _, _, rfl, sp3f.mono w29.b, sp4f.mono w29.b, eq3, eq4, fun H30 s30 => ⟨_, rfl, ?_⟩⟩
      rw [decide_eq_false (fun z => by have := z.1; simp at this)]
      have w30 := w29.mono s30
      refine ⟨_, rfl, iteT ?_⟩
      refine ⟨_, rfl, _, rfl, Oth.same (w30.m _ _ upd_same), x1, _, _, rfl, w30.m _ _ j1, x1, dx1, o, n1', _, _, .ref x2, rfl, w30.m _ _ j1, m1f.mono w30.b, co1, (by decide : 2 ≤ 1000), .inl ⟨x2, dx2, o, n2'', _, _, rfl, w30.m _ _ upd_same, m28.mono w30.b, co1, (by decide : 2 ≤ 1000), fun H31 s31 => ⟨_, rfl, ?_⟩⟩⟩
      rw [decide_eq_true (show sameSes _ _ _ _ from ⟨rfl, rfl⟩)]
      have w31 := w30.mono s31
      exact k B28 H31 bAll ⟨d3, W3.ok, W0.md, W0.ml, W3.dl, (b37.trans (b8.trans (s9.trans (b917.trans b1728)))) _ _ W3.c, w31.less eF⟩
end
end Mw
/-! W32: what holds while the law runs -/
namespace Mw
open PySem PySem.Spec PyProof.Rows L2
abbrev lamQ : Str := "_law_moved.<locals>.<lambda>"
/-- the draw, the table -/
structure Bs (x : Dx) (Pt : Addr) (B M H : Hp) : Prop where
  d : Drw x B M H
  t : TabIn B M Pt lamQ
  o : ∀ b ps, M b = some (.tbl ps) → b = Pt
  n : ∀ b ps, B b ≠ some (.tbl ps)
section
variable {x : Dx} {Pt a : Addr} {B B' M M' H H' : Hp} {C dx dx' : Addr} {fs fs' : List (Str × V)}
theorem Bs.heap (b : Bs x Pt B M H) (s : Same H H') : Bs x Pt B M H' := ⟨b.d.mono s, b.t, b.o, b.n⟩
theorem ext_nt (s : Same B B') : LamX.ExtN B (nt B') := (ext_of_same s).trans (nt_ext _)
theorem Bs.same (b : Bs x Pt B M H) (s : Same B B') (d : Drw x B' M H') : Bs x Pt (nt B') M H' := ⟨d.nt, TabIn.nt (b.t.mono s (fun _ h => h) (fun _ h => h)), b.o, fun b ps => nt_no b ps⟩
theorem Bs.tp (b : Bs x Pt B M H) : ∃ ps, M Pt = some (.tbl ps) := by
  obtain ⟨ps, h, _⟩ := b.t
  exact ⟨ps, h⟩
theorem Bs.put (b : Bs x Pt B M H) (ha : ∀ ps, M a ≠ some (.tbl ps)) (hc : ∀ q, M a ≠ some (LamX.CodeO a q)) (s : Same B B') (d : Drw x B' (upd M a (.ins C dx fs)) H') : Bs x Pt (nt B') (upd M a (.ins C dx fs)) H' := by
  obtain ⟨ps, hp⟩ := b.tp
  have nP : Pt ≠ a := fun z => ha ps (by rw [← z]; exact hp)
  refine ⟨d.nt, TabIn.nt (b.t.mono s (fun ps h => by rw [upd_ne nP]; exact h) (fun c h => ?_)), fun b' ps' h => ?_, fun b ps => nt_no b ps⟩
  · rw [upd_ne (fun z => hc lamQ (by rw [← z]; exact h))]
    exact h
  · by_cases q : b' = a
    · rw [q, upd_same] at h
      cases h
    · rw [upd_ne q] at h
      exact b.o _ _ h
theorem Bs.add (b : Bs x Pt B M H) (ha : H a = none) (s : Same B B') (d : Drw x B' (upd M a (.ins C dx fs)) H') : Bs x Pt (nt B') (upd M a (.ins C dx fs)) H' :=
  b.put (fun ps z => by rw [b.d.fm ha] at z; cases z) (fun q z => by rw [b.d.fm ha] at z; cases z) s d
theorem Bs.chg (b : Bs x Pt B M H) (ha : M a = some (.ins C dx' fs')) (s : Same B B') (d : Drw x B' (upd M a (.ins C dx fs)) H') : Bs x Pt (nt B') (upd M a (.ins C dx fs)) H' :=
  b.put (fun ps z => by rw [ha] at z; cases z) (fun q z => by rw [ha] at z; exact code_ins (Option.some.inj z).symm) s d
end
/-- a session -/
structure Ses (K : PySem.W.Frag) (B M : Hp) (sb org : Addr) (c : Chain) (s0 : Sh) : Prop where
  ex : ∃ dx now, M sb = some (.ins (aSe K) dx (seF org now)) ∧ MomAt K B now c s0
  ok : ChOk c s0
/-- its past -/
def Pst (B : Hp) (la : Addr) (c : Chain) (s0 : Sh) : Prop := ∃ refs, B la = some (.lst refs) ∧ Paired (PastAt B s0) refs (tails c)
section
variable {P : Program} {w : World} {K : PySem.W.Frag} {mg : Str → Option Value} {base : Heap}
variable {x : Dx} {Pt sb org la a l : Addr} {B B' M M' H H' : Hp} {c : Chain} {s0 : Sh} {cs : List Nat} {drefs : List V} {Q : VK} {E : XK}
theorem Ses.ext (s : Ses K B M sb org c s0) (e : LamX.ExtN B B') (h : M' sb = M sb) : Ses K B' M' sb org c s0 := by
  obtain ⟨⟨dx, now, h1, h2⟩, ok⟩ := s
  exact ⟨⟨dx, now, by rw [h]; exact h1, h2.ext e⟩, ok⟩
theorem Pst.ext (p : Pst B la c s0) (e : LamX.ExtN B B') : Pst B' la c s0 := by
  obtain ⟨refs, h1, h2⟩ := p
  exact ⟨refs, e _ _ h1 (fun _ z => by cases z), past_ext h2 e⟩
theorem Ses.neP (b : Bs x Pt B M H) (s : Ses K B M sb org c s0) : sb ≠ Pt := fun z => by
  obtain ⟨⟨dx, now, h1, _⟩, _⟩ := s
  obtain ⟨ps, hp⟩ := b.tp
  rw [z, hp] at h1
  cases h1
theorem Pst.last (p : Pst B la c s0) : ∃ refs' t a l cs drefs, B la = some (.lst (refs' ++ [.ref t])) ∧ B t = some (.tup [.ref a, .ref l]) ∧ ShAt B a cs (cur c s0) ∧ B l = some (.lst drefs) ∧ Paired (DeedAt B) drefs (c.map Prod.fst).reverse := by
  obtain ⟨refs, h1, h2⟩ := p
  obtain ⟨l0, e⟩ := tails_last c
  rw [e] at h2
  obtain ⟨refs', v, rfl, _, t, a, l, cs, drefs, rfl, q1, q2, q3, q4⟩ := paired_snoc_inv h2
  exact ⟨refs', t, a, l, cs, drefs, h1, q1, q2, q3, q4⟩
theorem w_moved (b : Bs x Pt B M H) (s : Ses K B M sb org c s0) (p : Pst B la c s0) (lo : LenOk c s0) (lc : c.length ≤ 95)
    (k : ∀ B' M' lb c' H', LamX.ExtN B B' → Bs x Pt B' M' H' → (∀ b, b ≠ sb → b ≠ Pt → M' b = M b) → Ses K B' M' sb org c' s0 → Pst B' lb c' s0 → LenOk c' s0 → c'.length ≤ c.length + 1 → Q (.ref lb) H') :
    spMoved K Pt [.ref x.d, .ref sb, .ref la] H Q E := by
  have nP := s.neP b
  obtain ⟨⟨dx, now, h1, h2⟩, ok⟩ := s
  obtain ⟨refs, p1, p2⟩ := p
  refine ⟨x, B, M, sb, la, dx, org, now, c, s0, refs, rfl, b.d, h1, h2, ok, lc, lo, p1, p2, b.t, b.o, b.n, fun B' M' lb now' c' refs' H' e d' hm h1' h2' ok' l' lo' p1' p2' t' n' => k B' M' lb c' H' e ⟨d', t', fun b' ps h => ?_, n'⟩ hm ⟨⟨dx, now', h1', h2'⟩, ok'⟩ ⟨refs', p1', p2'⟩ lo' l'⟩
  by_cases q1 : b' = Pt
  · exact q1
  · by_cases q2 : b' = sb
    · rw [q2, h1'] at h
      cases h
    · rw [hm b' q2 q1] at h
      exact b.o _ _ h
theorem w_stands (b : Bs x Pt B M H) (s : Ses K B M sb org c s0) (lc : c.length ≤ 200) (sa : ShAt B a cs (cur c s0)) (hl : B l = some (.lst drefs)) (pd : Paired (DeedAt B) drefs (c.map Prod.fst).reverse)
    (k : ∀ B' H', LamX.ExtN B B' → Bs x Pt B' M H' → Q (.bl true) H') : spStands K [.ref sb, .ref a, .ref l] H Q E := by
  obtain ⟨⟨dx, now, h1, h2⟩, ok⟩ := s
  obtain ⟨dd, wd, bk⟩ := drw_wd b.d
  obtain ⟨dq, W⟩ := id b.d
  have hs : (DrH x M dd) sb = some (.ins (aSe K) dx (seF org now)) := by
    rw [DrH_ne (ne_of_none h1 W.md) (ne_of_none h1 W.ml)]
    exact h1
  exact ⟨B, _, sb, a, l, dx, org, now, c, s0, cs, drefs, rfl, wd, hs, h2, ok, lc, sa, hl, pd, fun B' H' sB w' => k _ _ (ext_nt sB) (b.same sB (bk _ _ sB w'))⟩
theorem w_asnew (b : Bs x Pt B M H) (s : Ses K B M sb org c s0) (lc : c.length ≤ 200) (sa : ShAt B a cs (cur c s0)) (hl : B l = some (.lst drefs)) (pd : Paired (DeedAt B) drefs (c.map Prod.fst).reverse)
    (k : ∀ B' H', LamX.ExtN B B' → Bs x Pt B' M H' → Q (.bl true) H') : spAsNew K [.ref x.d, .ref sb, .ref a, .ref l] H Q E := by
  obtain ⟨⟨dx, now, h1, h2⟩, ok⟩ := s
  exact ⟨x, B, M, sb, a, l, dx, org, now, c, s0, cs, drefs, rfl, b.d, h1, h2, ok, lc, sa, hl, pd, fun B' H' sB d' => k _ _ (ext_nt sB) (b.same sB d')⟩
/-- the deeds of a chain lead to it -/
theorem Run.snoc {c c1 c2 : Chain} {as : List (Option Deed)} {a : Option Deed} (h : Run s0 c as c1) (st : ActSt s0 c1 a c2) : Run s0 c (as ++ [a]) c2 := by
  induction h with
  | nil => exact .cons st .nil
  | cons st' _ ih => exact .cons st' (ih st)
theorem run_chain : ∀ {c : Chain}, ChOk c s0 → Run s0 [] ((c.map Prod.fst).reverse.map some) c
  | [], _ => .nil
  | (d, s) :: r, ⟨st, ok⟩ => by
    rw [List.map_cons, List.reverse_cons, List.map_append, List.map_singleton]
    exact (run_chain ok).snoc (.deed st)
theorem acts_of {vs : List V} {ds : List Deed} (p : Paired (DeedAt B) vs ds) : Paired (ActAt B) vs (ds.map some) := by
  induction p with
  | nil => exact .nil
  | cons h _ ih =>
    obtain ⟨a, h1, h2⟩ := h
    exact .cons ⟨a, h1, h2⟩ ih
theorem nt_same : Same (nt B) B := fun _ _ h => nt_sub h
theorem drw_new' {d : DrC} {o : HO} (w : DrW x B M H d) (ha : (DrH x M d) a = none) (sB : Same B B') (w' : Wd B' (upd (DrH x M d) a o) H') : DrW x B' (upd M a o) H' d := by
  have n1 : x.d ≠ a := fun z => by rw [← z, DrH_d w.dl] at ha; cases ha
  have n2 : x.l ≠ a := fun z => by rw [← z, DrH_l] at ha; cases ha
  refine ⟨w.ok, by rw [upd_ne n1]; exact w.md, by rw [upd_ne n2]; exact w.ml, w.dl, sB _ _ w.c, ?_⟩
  unfold DrH at w' ⊢
  rw [upd_comm n2, upd_comm n1] at w'
  exact w'
theorem Bs.addM {C dx : Addr} {fs : List (Str × V)} (b : Bs x Pt B M H) (ha : M a = none) (s : Same B B') (d : Drw x B' (upd M a (.ins C dx fs)) H') : Bs x Pt (nt B') (upd M a (.ins C dx fs)) H' :=
  b.put (fun ps z => by rw [ha] at z; cases z) (fun q z => by rw [ha] at z; cases z) s d
theorem w_eqS {b org2 : Addr} {c2 : Chain} {s2 : Sh} (bs : Bs x Pt B M H) (h1 : Ses K B M a org c s0) (h2 : Ses K B M b org2 c2 s2) (l1 : c.length ≤ 1000) (l2 : c2.length ≤ 1000) (k : ∀ H', Same H H' → Q (.bl (decide (sameSes c s0 c2 s2))) H') :
    (∃ b' dy gs, V.ref b = .ref b' ∧ H b' = some (.ins (aSe K) dy gs)) ∧ InC (aSe K) (spSesEq K) E (.ref a) [.ref b] H Q := by
  obtain ⟨⟨dx, now, e1, m1⟩, o1⟩ := h1
  obtain ⟨⟨dx2, now2, e2, m2⟩, o2⟩ := h2
  have f1 := bs.d.m _ _ e1
  have f2 := bs.d.m _ _ e2
  exact ⟨⟨b, dx2, _, rfl, f2⟩, a, dx, _, rfl, f1, a, dx, org, now, c, s0, .ref b, rfl, f1, m1.mono bs.d.b, o1, l1, .inl ⟨b, dx2, org2, now2, c2, s2, rfl, f2, m2.mono bs.d.b, o2, l2, k⟩⟩
theorem eqv_nilD (ds : List Deed) : PyData.eqv (.list (ds.map Deed.data)) (.list []) = ds.isEmpty := by
  cases ds <;> simp [PyData.eqv, PyData.eqvAll]
/-- the chains below a chain, the longest first -/
def downs : Chain → List Chain
  | [] => []
  | _ :: r => r :: downs r
theorem tails_downs : ∀ c : Chain, tails c = (downs c).reverse ++ [c]
  | [] => rfl
  | q :: r => by
    show tails r ++ [q :: r] = (r :: downs r).reverse ++ [q :: r]
    rw [tails_downs r, List.reverse_cons]
theorem downs_at : ∀ {c : Chain} {i : Nat} {d : Chain}, (downs c)[i]? = some d → ∃ q, c.drop i = q :: d ∧ c.drop (i + 1) = d
  | [], i, d, h => by cases h
  | q :: r, 0, d, h => by
    obtain rfl := Option.some.inj h
    exact ⟨q, rfl, rfl⟩
  | q :: r, i + 1, d, h => by
    obtain ⟨p, h1, h2⟩ := downs_at (c := r) (i := i) (d := d) h
    exact ⟨p, h1, h2⟩
theorem downs_len : ∀ c : Chain, (downs c).length = c.length
  | [] => rfl
  | _ :: r => by
    show (downs r).length + 1 = r.length + 1
    rw [downs_len r]
theorem Pst.down (p : Pst B la c s0) : ∃ refs' v, B la = some (.lst (refs' ++ [v])) ∧ Paired (PastAt B s0) refs'.reverse (downs c) := by
  obtain ⟨refs, h1, h2⟩ := p
  rw [tails_downs c] at h2
  obtain ⟨refs', v, rfl, h3, _⟩ := paired_snoc_inv h2
  have h4 := paired_rev h3
  rw [List.reverse_reverse] at h4
  exact ⟨refs', v, h1, h4⟩
end
end Mw
/-! W33: the law -/
namespace Mw
open PySem PySem.Spec PyProof.Rows L2
/-- the state ahead of the law -/
theorem law_start {K : PySem.W.Frag} {H : Hp} {Pt s : Addr} {xs : List V} (hP : H Pt = some (.tbl #[])) (hS : SqL K H s xs) : ∃ B M, Wd B M H ∧ SqL K B s xs ∧ TabIn B M Pt lamQ ∧ (∀ b ps, M b = some (.tbl ps) → b = Pt) := by
  have tab : ∀ B : Hp, TabIn B (fun b => if b = Pt then some (.tbl #[]) else none) Pt lamQ := fun B => ⟨#[], if_pos rfl, trivial, fun pos cv h => by
    have z : codeAmong pos [] = some cv := h
    simp [codeAmong] at z⟩
  have only : ∀ b ps, (fun b => if b = Pt then some (.tbl #[]) else (none : Option HO)) b = some (.tbl ps) → b = Pt := fun b ps h => by
    by_cases q : b = Pt
    · exact q
    · have h' : (if b = Pt then some (HO.tbl #[]) else none) = some (.tbl ps) := h
      rw [if_neg q] at h'
      cases h'
  have sm : Same (fun b => if b = Pt then some (.tbl #[]) else none) H := fun b o h => by
    by_cases q : b = Pt
    · have h' : (if b = Pt then some (HO.tbl #[]) else none) = some o := h
      rw [if_pos q] at h'
      rw [q, hP, h']
    · have h' : (if b = Pt then some (HO.tbl #[]) else none) = some o := h
      rw [if_neg q] at h'
      cases h'
  rcases hS with hS | hK
  · have key : ∃ o, H s = some o ∧ o ≠ .tbl #[] ∧ ((o = .lst xs) ∨ ∃ u, o = .frz u (.lst xs)) := by
      rcases hS with h | ⟨u, h⟩
      · exact ⟨_, h, (fun z => by cases z), .inl rfl⟩
      · exact ⟨_, h, (fun z => by cases z), .inr ⟨_, rfl⟩⟩
    obtain ⟨o, ho, nt, hx⟩ := key
    have ne : s ≠ Pt := fun z => by
      rw [z, hP] at ho
      exact nt (Option.some.inj ho).symm
    refine ⟨fun b => if b = s then some o else none, _, ⟨fun b u h => ?_, sm, fun b u h => ?_⟩, .inl ?_, tab _, only⟩
    · by_cases q : b = s
      · have h' : (if b = s then some o else none) = some u := h
        rw [if_pos q] at h'
        rw [q, ho, h']
      · have h' : (if b = s then some o else none) = some u := h
        rw [if_neg q] at h'
        cases h'
    · by_cases q : b = s
      · rw [q]
        exact if_neg ne
      · have h' : (if b = s then some o else none) = some u := h
        rw [if_neg q] at h'
        cases h'
    · rcases hx with rfl | ⟨u, rfl⟩
      · exact .inl (if_pos rfl)
      · exact .inr ⟨u, if_pos rfl⟩
  · exact ⟨fun _ => none, _, ⟨fun b u h => (nomatch h), sm, fun b u h => (nomatch h)⟩, .inr hK, tab _, only⟩
section
variable {P : Program} {w : World} {K : PySem.W.Frag} {mg : Str → Option Value} {base : Heap}
def N_law : List Str := ["_law_script", "_law_draw", "_law_turn", "_law_past", "_law_origin", "_law_bench", "_law_lap", "_law_other", "_law_plain", "_law_apart", "_law_sheet_here", "_law_acts"]
theorem sc_law : FnScope N_law ["_law_script"] (defScope (top 72)) := ⟨rfl, rfl, rfl, by decide +kernel, rfl, by decide +kernel, by decide +kernel⟩
def spLaw (K : PySem.W.Frag) (Pt : Addr) : Sp := fun vs H Q _ => ∃ (s : Addr) (ns : List Int), vs = [.ref s] ∧ H Pt = some (.tbl #[]) ∧ SqL K H s (ns.map V.int) ∧ ns.length ≤ 63 ∧ ∀ H', Q (.bl true) H'
theorem mkFG {x : Str} {st : Stmt} {f : Addr} {N ps : List Str} {k : Nat} {sp : Sp} {fd : FuncData} (F : FunD K x x (defArgs st) (defBody st) (defScope st) [] [] f fd) (S : FnScope N ps (defScope st)) (len : ∀ vs H Q E, sp vs H Q E → vs.length = ps.length)
    (hbody : ∀ (cdv : Value) (A : Around) (outer : List Env) (s : Shared) (H : Hp) (vs : List V) (Q : VK) (E : XK), Room k (A.deeper (envOfC x (defScope st) s.heap.objs.size f cdv)) → A.guards = some [] → sp vs H Q E →
      ∃ t, PSs (cxOf CX0 P w K mg base N x (defScope st) f cdv A outer s H E).nox (defBody st) t ∧ t { nx := fun _ H' => Q .non H', rt := Q } (L2.start N vs) H) : FnOkG P w K mg base CX0 (k + 1) f fd ps sp := by
  obtain ⟨oc, od, dV, kV, doc, pm, an, cdv, ct, osl, rfl, lk, hcd, _, _⟩ := F.ex
  refine ⟨len, fun A outer s H args us vs Q E hr hg e0 hb r hsp => ?_⟩
  refine LamX.run_ofS lk hcd S hr e0 hb r (len _ _ _ _ hsp) fun hr' => ?_
  obtain ⟨t, a, b⟩ := hbody cdv A outer s H vs Q E hr' hg hsp
  exact ⟨t, a.nox, b⟩
theorem f_law (T : Tx P w K mg) {cP : Addr × Addr} (hC : cdOf K (He.ga K "_law_moved") = .ref cP.1) (TB : LamX.TabB base mg cP.1 cP.2) {fd : FuncData} (F : FunD K "law" "law" (defArgs (top 72)) (defBody (top 72)) (defScope (top 72)) [] [] (He.ga K "law") fd) :
    FnOkG P w K mg base CX0 22 (He.ga K "law") fd ["_law_script"] (spLaw K cP.2) := by
  have S := sc_law
  have c__law_begin := @c__law_begin P w K mg base T
  have c__law_take := @c__law_take P w K mg base T
  have c__law_sheet := @c__law_sheet P w K mg base T
  have c__law_speller := @c__law_speller P w K mg base T
  have c_Session := @c_Session P w K mg base T
  have c__law_moved := @c__law_moved P w K mg base T cP hC TB
  have c__law_stands := @c__law_stands P w K mg base T
  have c__law_is_as_new := @c__law_is_as_new P w K mg base T
  have c__law_equal_right := @c__law_equal_right P w K mg base T
  have c_Session_twin := @c_Session_twin P w K mg base T
  have c_Session_do := @c_Session_do P w K mg base T
  have c_Session_do_all := @c_Session_do_all P w K mg base T
  have c_Session_origin := @c_Session_origin P w K mg base T
  have c_Session_speller := @c_Session_speller P w K mg base T
  have c_Session___eq__ := @c_Session___eq__ P w K mg base T
  have c_Speller___eq__ := @c_Speller___eq__ P w K mg base T
  refine mkFG F S (fun vs H Q E h => ?_) (fun cdv A outer s H vs Q E hr hgd h => ?_)
  · obtain ⟨s, ns, rfl, _⟩ := h
    rfl
  · obtain ⟨sa, ns, rfl, hP, hS, l63, k⟩ := h
    have hu := hu_of hr
    refine ⟨_, (pss_cons (ps_set (i := 1) S.nd rfl (Or.inl rfl) (pe_f c__law_begin hr (by decide) rfl pass0 (pa_cons (pv 0) pa_nil)))
    (pss_cons (ps_for PassesOwn.never rfl (pi_range1 (by rfl) T.n_range (pa_cons (pe_op op_add pe_int (pe_callB (call_min2 rfl) rfl T.n_min bt_min (pa_cons (pe_callB call_len_seq rfl T.n_len bt_len (pa_cons (pv 0) pa_nil)) (pa_cons pe_int pa_nil)))) pa_nil)) (pg_name (i := 2) S.nd rfl (Or.inl rfl))
    (pss_cons (ps_set (i := 3) S.nd rfl (Or.inl rfl) (pe_lst (pa_cons (pe_tup (pa_cons (pe_f c__law_sheet hr (by decide) rfl pass0 (pa_cons (pv 1) pa_nil)) (pa_cons (pe_lst pa_nil) pa_nil))) pa_nil)))
    (pss_cons (ps_set (i := 4) S.nd rfl (Or.inl rfl) (pe_f c__law_speller hr (by decide) rfl pass0 (pa_cons (pe_ix ix_tup (pe_ix ix_list (pv 3) pe_int (fun _ _ => rfl)) pe_int (fun _ _ => rfl)) pa_nil)))
    (pss_cons (ps_set (i := 5) S.nd rfl (Or.inl rfl) (pe_n c_Session hr (by decide) rfl pass0 (pa_cons (pv 4) pa_nil)))
    (pss_cons (ps_for PassesOwn.never rfl (pi_range1 (by rfl) T.n_range (pa_cons (pe_op op_add pe_int (pe_f c__law_take hr (by decide) rfl pass0 (pa_cons (pv 1) (pa_cons pe_int pa_nil)))) pa_nil)) (pg_name (i := 6) S.nd rfl (Or.inl rfl))
    (pss_cons (ps_set (i := 3) S.nd rfl (Or.inl rfl) (pe_f c__law_moved hr (by decide) rfl pass0 (pa_cons (pv 1) (pa_cons (pv 5) (pa_cons (pv 3) pa_nil)))))
    (pss_one (ps_if (pt_not (pt_val (pe_fG c__law_stands hr hgd (by decide) rfl pass0 (pa_cons (pv 5) (pa_cons (pe_ix ix_tup (pe_ix ix_list (pv 3) (pe_un un_neg pe_int) (fun _ _ => rfl)) pe_int (fun _ _ => rfl)) (pa_cons (pe_ix ix_tup (pe_ix ix_list (pv 3) (pe_un un_neg pe_int) (fun _ _ => rfl)) pe_int (fun _ _ => rfl)) pa_nil)))))) (pss_one (ps_ret pe_bl)) pss_nil))))
    (pss_cons (ps_par3 (i := 7) (j := 8) (l := 9) (by rfl) S.nd rfl rfl rfl (by decide) (by decide) (by decide) rfl rfl rfl (pa_cons (pe_m0 c_Session_twin hr (by decide) pass0 (pv 5)) (pa_cons (pe_n c_Session hr (by decide) rfl pass0 (pa_cons (pv 4) pa_nil)) (pa_cons (pv 3) pa_nil))) (by rfl))
    (pss_cons (ps_expr (pe_m c_Session_do_all hr (by decide) pass0 (pv 8) (pa_cons (pe_ix ix_tup (pe_ix ix_list (pv 3) (pe_un un_neg pe_int) (fun _ _ => rfl)) pe_int (fun _ _ => rfl)) pa_nil)))
    (pss_cons (ps_if (PW.pt (pw_or (pt_cmpR (op_neO c_Session___eq__ hr (by decide) pass0 T.ne_Session T.ob_Session) (pv 7) (pv 5) (nomark _)) (pw_or (pt_cmpR (op_neO c_Session___eq__ hr (by decide) pass0 T.ne_Session T.ob_Session) (pv 8) (pv 5) (nomark _)) (pw_or1 (pt_cmpR op_ne (pe_cmpR (op_neD hr.units) (pe_ix ix_tup (pe_ix ix_list (pv 3) (pe_un un_neg pe_int) (fun _ _ => rfl)) pe_int (fun _ _ => rfl)) (pe_lst pa_nil) (nomark _)) (pe_cmpR (op_neO c_Session___eq__ hr (by decide) pass0 T.ne_Session T.ob_Session) (pe_n c_Session hr (by decide) rfl pass0 (pa_cons (pv 4) pa_nil)) (pv 5) (nomark _)) (nomark _)))))) (pss_one (ps_ret pe_bl)) pss_nil)
    (pss_cons (ps_for PassesOwn.never rfl (pi_range1 (by rfl) T.n_range (pa_cons pe_int pa_nil)) (pg_name (i := 6) S.nd rfl (Or.inl rfl))
    (pss_one (ps_set (i := 9) S.nd rfl (Or.inl rfl) (pe_f c__law_moved hr (by decide) rfl pass0 (pa_cons (pv 1) (pa_cons (pv 7) (pa_cons (pv 9) pa_nil)))))))
    (pss_cons (ps_if (pt_not (pt_val (pe_fG c__law_is_as_new hr hgd (by decide) rfl pass0 (pa_cons (pv 1) (pa_cons (pv 7) (pa_cons (pe_ix ix_tup (pe_ix ix_list (pv 9) (pe_un un_neg pe_int) (fun _ _ => rfl)) pe_int (fun _ _ => rfl)) (pa_cons (pe_ix ix_tup (pe_ix ix_list (pv 9) (pe_un un_neg pe_int) (fun _ _ => rfl)) pe_int (fun _ _ => rfl)) pa_nil))))))) (pss_one (ps_ret pe_bl)) pss_nil)
    (pss_cons (ps_if (PW.pt (pw_or (pt_not (pt_val (pe_fG c__law_is_as_new hr hgd (by decide) rfl pass0 (pa_cons (pv 1) (pa_cons (pv 5) (pa_cons (pe_ix ix_tup (pe_ix ix_list (pv 3) (pe_un un_neg pe_int) (fun _ _ => rfl)) pe_int (fun _ _ => rfl)) (pa_cons (pe_ix ix_tup (pe_ix ix_list (pv 3) (pe_un un_neg pe_int) (fun _ _ => rfl)) pe_int (fun _ _ => rfl)) pa_nil))))))) (pw_or (pt_cmpR (op_eqO c_Session___eq__ hr (by decide) pass0) (pv 5) (pe_p c_Session_speller hr (by decide) pass0 (pv 5)) (nomark _)) (pw_or1 (pt_cmpR (op_eqO c_Session___eq__ hr (by decide) pass0) (pv 5) pe_non (nomark _)))))) (pss_one (ps_ret pe_bl)) pss_nil)
    (pss_cons (ps_for PassesOwn.never rfl (pi_list (pe_revL (pe_slice sl_list (pv 3) po_none (po_some (pe_un un_neg pe_int))))) (pg_tup rfl (pgs_cons (pg_name (i := 10) S.nd rfl (Or.inl rfl)) (pgs_cons (pg_name (i := 11) S.nd rfl (Or.inl rfl)) pgs_nil)))
    (pss_cons (ps_expr (pe_m c_Session_do hr (by decide) passN (pv 5) (pa_cons (pe_tup (pa_cons pe_str pa_nil)) pa_nil)))
    (pss_one (ps_if (pt_not (pt_val (pe_fG c__law_stands hr hgd (by decide) rfl pass0 (pa_cons (pv 5) (pa_cons (pv 10) (pa_cons (pv 11) pa_nil)))))) (pss_one (ps_ret pe_bl)) pss_nil))))
    (pss_cons (ps_if (PW.pt (pw_or (pt_cmpR (op_neO c_Speller___eq__ hr (by decide) pass0 T.ne_Speller T.ob_Speller) (pe_p c_Session_origin hr (by decide) pass0 (pv 7)) (pv 4) (nomark _)) (pw_or1 (pt_not (pt_val (pe_fG c__law_is_as_new hr hgd (by decide) rfl pass0 (pa_cons (pv 1) (pa_cons (pv 7) (pa_cons (pe_ix ix_tup (pe_ix ix_list (pv 9) (pe_un un_neg pe_int) (fun _ _ => rfl)) pe_int (fun _ _ => rfl)) (pa_cons (pe_ix ix_tup (pe_ix ix_list (pv 9) (pe_un un_neg pe_int) (fun _ _ => rfl)) pe_int (fun _ _ => rfl)) pa_nil)))))))))) (pss_one (ps_ret pe_bl)) pss_nil)
    (pss_one (ps_if (pt_not (pt_val (pe_f c__law_equal_right hr (by decide) rfl pass0 (pa_cons (pv 1) (pa_cons (pv 4) pa_nil))))) (pss_one (ps_ret pe_bl)) pss_nil)))))))))))))))
    (pss_one (ps_ret pe_bl)))), ?_⟩
    obtain ⟨B, M, wd, hSB, tb, ot⟩ := law_start hP hS
    refine ⟨_, rfl, B, M, sa, ns, rfl, wd, hSB, l63, fun B1 x H1 s1 d1 => ?_⟩
    refine ⟨_, rfl, sa, _, rfl, .inl ((s1.trans d1.b).seq hSB), _, _, rfl, _, _, rfl, rfl, ?_⟩
    refine ⟨_, rfl, by rw [List.length_map]; split <;> omega, by rw [List.length_map]; split <;> omega, ?_⟩
    have b1 : Bs x cP.2 (nt B1) M H1 := ⟨d1.nt, TabIn.nt (tb.mono s1 (fun _ h => h) (fun _ h => h)), ot, fun b ps => nt_no b ps⟩
    refine for_it walk_range (fun i σ H' => (∃ b2 b3 b4 b5 b6 b7 b8 b9 b10 b11, σ = [some (.ref sa), some (.ref x.d), b2, b3, b4, b5, b6, b7, b8, b9, b10, b11]) ∧ ∃ B M, Bs x cP.2 B M H') ⟨⟨_, _, _, _, _, _, _, _, _, _, rfl⟩, _, _, b1⟩ (fun _ _ _ _ _ => trivial) (fun i0 _ _ _ H3 hi0 pv y => ?_) (fun σ H3 pv => ?_)
    · obtain ⟨⟨b2, b3, b4, b5, b6, b7, b8, b9, b10, b11, rfl⟩, B3, M3, bs3⟩ := pv
      obtain ⟨rfl, rfl⟩ := y
      clear b1 d1 s1 tb ot wd hSB hP hS B M B1
      refine ⟨_, rfl, x, B3, M3, rfl, bs3.d, fun B4 a cs s0 H4 s4 d4 sh ok hx0 => ⟨sz0, fun l hl => ⟨sz2, fun t ht => ⟨sz1, fun la hla => ?_⟩⟩⟩⟩
      obtain ⟨es0, p0, x0⟩ := s0
      obtain rfl : x0 = [] := hx0
      have d5 := d4.new hl (o := .lst [])
      have s5 := d4.sb hl (o := .lst [])
      have d6 := d5.new ht (o := .tup [.ref a, .ref l])
      have s6 := d5.sb ht (o := .tup [.ref a, .ref l])
      have d7 := d6.new hla (o := .lst [.ref t])
      have s7 := d6.sb hla (o := .lst [.ref t])
      have ela := d7.b _ _ upd_same
      have elt := d7.b _ _ (s7 _ _ upd_same)
      obtain ⟨dd7, wd7, bk7⟩ := drw_wd d7
      refine ⟨_, rfl, la, _, _, .ref t, rfl, rfl, SqL.of ela, atI_nat (j := 0) rfl, t, _, _, .ref a, rfl, rfl, SqT.of elt, atI_nat (j := 0) rfl, _, _, a, cs, ⟨es0, p0, []⟩, rfl, wd7, sh.mono (s5.trans (s6.trans s7)), ok, fun B8 org H8 s8 w8 hsp => ?_⟩
      have d8 := bk7 _ _ s8 w8
      have s47 := s4.trans (s5.trans (s6.trans s7))
      have b8 := bs3.same (s47.trans s8) d8
      obtain ⟨c8, W8⟩ := id d8
      refine ⟨_, rfl, fun sb sdx hsb hsd sne => session_made W8.w hsb hsd sne hsp fun B9 now H9 s9 w9 m9 => ?_⟩
      have W9 := drw_new W8 hsb s9 w9
      have b9 := b8.add hsb ((fun _ _ h => s9 _ _ (nt_sub h)) : Same (nt B8) B9) ⟨c8, W9⟩
      have ses9 : Ses K (nt B9) (upd M3 sb (.ins (aSe K) sdx (seF org now))) sb org [] ⟨es0, p0, []⟩ := ⟨⟨sdx, now, upd_same, m9.ext (nt_ext _)⟩, ok⟩
      have s89 := s8.trans s9
      have pst9 : Pst (nt B9) la [] ⟨es0, p0, []⟩ := ⟨[.ref t], nt_ext _ _ _ (s89 _ _ upd_same) (fun _ z => by cases z), .cons ⟨t, a, l, cs, [], rfl, nt_ext _ _ _ (s89 _ _ (s7 _ _ upd_same)) (fun _ z => by cases z), (sh.mono (s5.trans (s6.trans (s7.trans s89)))).ext (nt_ext _), nt_ext _ _ _ (s89 _ _ ((s6.trans s7) _ _ upd_same)) (fun _ z => by cases z), .nil⟩ .nil⟩
      have sp9 : SpellerAt K (nt B9) org es0 p0 := (hsp.mono s9).ext (nt_ext _)
      generalize nt B9 = B9 at b9 ses9 pst9 sp9
      generalize upd M3 sb (.ins (aSe K) sdx (seF org now)) = M9 at b9 ses9
      clear W9 w9 m9 W8 d8 wd7 bk7 d7 d6 d5 d4 b8 s9 s89 s47 s8 s7 s6 s5 s4 ela elt hsp bs3
      refine ⟨_, rfl, x, _, _, 30, rfl, b9.d, by decide, by decide, fun f H10 f0 f1 d10 => ⟨_, _, rfl, rfl, ?_⟩⟩
      have b10' : Bs x cP.2 B9 M9 H10 := ⟨d10, b9.t, b9.o, b9.n⟩
      refine ⟨_, rfl, by omega, by omega, ?_⟩
      refine for_it walk_range (fun i σ H' => ∃ c6 c7 c8 c9 c10 c11 lp B M c, σ = [some (.ref sa), some (.ref x.d), some (.int (0 + (i0 : Nat))), some (.ref lp), some (.ref org), some (.ref sb), c6, c7, c8, c9, c10, c11] ∧ Bs x cP.2 B M H' ∧ LamX.ExtN B9 B ∧ Ses K B M sb org c ⟨es0, p0, []⟩ ∧ Pst B lp c ⟨es0, p0, []⟩ ∧ LenOk c ⟨es0, p0, []⟩ ∧ c.length ≤ i)
        ⟨_, _, _, _, _, _, la, B9, M9, [], rfl, b10', fun _ _ h _ => h, ses9, pst9, rfl, Nat.le_refl _⟩ (fun _ _ _ _ _ => trivial) (fun i σ1 _ _ H11 hi pv y => ?_) (fun σ1 H11 pv => ?_)
      · obtain ⟨c6, c7, c8, c9, c10, c11, lp, B, M, c, rfl, bs, eB, ses, pst, lo, lc⟩ := pv
        obtain ⟨rfl, rfl⟩ := y
        have hi30 : i < 31 := by omega
        refine ⟨_, rfl, _, rfl, _, rfl, ?_⟩
        dsimp only [tNil]
        refine w_moved bs ses pst lo (by omega) fun B' M' lb c' H' e b' hm s' p' lo' lc' => ?_
        obtain ⟨refs', t', a', l', cs', drefs, q1, q2, q3, q4, q5⟩ := p'.last
        refine ⟨_, rfl, _, rfl, 1, rfl, lb, _, -1, .ref t', rfl, rfl, SqL.of (b'.d.b _ _ q1), atI_last _ _, t', _, _, .ref a', rfl, rfl, SqT.of (b'.d.b _ _ q2), atI_nat (j := 0) rfl, _, rfl, 1, rfl, lb, _, -1, .ref t', rfl, rfl, SqL.of (b'.d.b _ _ q1), atI_last _ _, t', _, _, .ref l', rfl, rfl, SqT.of (b'.d.b _ _ q2), atI_nat (j := 1) rfl, ?_⟩
        dsimp only [tNil]
        refine w_stands b' s' (by omega) q3 q4 q5 fun B'' H'' e2 b2' => ?_
        exact ⟨_, rfl, iteF ⟨_, _, _, _, _, _, lb, B'', M', c', rfl, b2', eB.trans (e.trans e2), s'.ext e2 rfl, p'.ext e2, lo', by omega⟩⟩
      · obtain ⟨c6, c7, c8, c9, c10, c11, lp, B, M, c, rfl, bs, eB, ses, pst, lo, lc⟩ := pv
        have lc30 : c.length ≤ 30 := by omega
        clear lc hi0
        have sp0 := sp9.ext eB
        have okc := ses.ok
        obtain ⟨⟨dx, nw, hsb, hm⟩, _⟩ := id ses
        obtain ⟨cd, W⟩ := id bs.d
        have hsbD : (DrH x M cd) sb = some (.ins (aSe K) dx (seF org nw)) := by
          rw [DrH_ne (ne_of_none hsb W.md) (ne_of_none hsb W.ml)]
          exact hsb
        refine ⟨_, rfl, sb, dx, _, rfl, W.w.m _ _ hsbD, seF_no (by decide +kernel) (by decide +kernel) (by decide +kernel), B, _, sb, dx, org, nw, es0, p0, rfl, W.w, hsbD, sp0, fun B1 ob odx H12 s1 hob w1 => ?_⟩
        have W1 := drw_new' W hob s1 w1
        have hobM : M ob = none := by
          have h1 : ob ≠ x.d := fun z => by rw [z, DrH_d W.dl] at hob; cases hob
          have h2 : ob ≠ x.l := fun z => by rw [z, DrH_l] at hob; cases hob
          rw [DrH_ne h1 h2] at hob
          exact hob
        have b1 := bs.addM hobM s1 ⟨cd, W1⟩
        refine ⟨_, rfl, fun pb pdx hpb hpd pne => session_made W1.w hpb hpd pne (sp0.mono s1) fun B2 nwp H13 s2 w2 m2 => ?_⟩
        have W2 := drw_new W1 hpb s2 w2
        have b2 := b1.add hpb (nt_same.trans s2) ⟨cd, W2⟩
        have hpbM : (upd M ob (.ins (aSe K) odx (seF org nw))) pb = none := b1.d.fm hpb
        obtain ⟨cd2, wd2, hpbD, back⟩ := drw_put ⟨cd, W2⟩ upd_same
        obtain ⟨refs', t', a', l', cs', drefs, q1, q2, q3, q4, q5⟩ := pst.last
        have s12 := s1.trans s2
        refine ⟨_, rfl, _, _, _, rfl, _, rfl, pb, pdx, _, rfl, wd2.m _ _ hpbD, seF_no (by decide +kernel) (by decide +kernel) (by decide +kernel), _, rfl, 1, rfl, lp, _, -1, .ref t', rfl, rfl, SqL.of (wd2.b _ _ (s12 _ _ q1)), atI_last _ _, t', _, _, .ref l', rfl, rfl, SqT.of (wd2.b _ _ (s12 _ _ q2)), atI_nat (j := 1) rfl, ?_⟩
        refine ⟨B2, _, pb, pdx, org, nwp, l', [], c, ⟨es0, p0, []⟩, drefs, _, rfl, wd2, hpbD, m2, ok, s12 _ _ q4, acts_of (deeds_mono q5 s12), by rw [List.length_map, List.length_reverse, List.length_map]; omega, run_chain okc, fun v3 B3 nwp' H14 s3 w3 m3 => ?_⟩
        have b3 := b2.chg upd_same (nt_same.trans s3) (back _ _ _ s3 w3)
        rw [upd_upd] at b3
        have s13 := s12.trans s3
        have n1 : sb ≠ ob := ne_of_none hsb hobM
        have n2 : sb ≠ pb := ne_of_none (show (upd M ob (.ins (aSe K) odx (seF org nw))) sb = some _ by rw [upd_ne n1]; exact hsb) hpbM
        have n3 : ob ≠ pb := ne_of_none upd_same hpbM
        have e3 : LamX.ExtN B (nt B3) := ext_nt s13
        have sesB : Ses K (nt B3) (upd (upd M ob (.ins (aSe K) odx (seF org nw))) pb (.ins (aSe K) pdx (seF org nwp'))) sb org c ⟨es0, p0, []⟩ := ses.ext e3 (by rw [upd_ne n2, upd_ne n1])
        have sesO : Ses K (nt B3) (upd (upd M ob (.ins (aSe K) odx (seF org nw))) pb (.ins (aSe K) pdx (seF org nwp'))) ob org c ⟨es0, p0, []⟩ := ⟨⟨odx, nw, by rw [upd_ne n3, upd_same], hm.ext e3⟩, okc⟩
        have sesP : Ses K (nt B3) (upd (upd M ob (.ins (aSe K) odx (seF org nw))) pb (.ins (aSe K) pdx (seF org nwp'))) pb org c ⟨es0, p0, []⟩ := ⟨⟨pdx, nwp', upd_same, m3.ext (nt_ext _)⟩, okc⟩
        have pst3 := pst.ext e3
        have sp3 := sp0.ext e3
        generalize nt B3 = B3 at b3 sesB sesO sesP pst3 sp3
        generalize (upd (upd M ob (.ins (aSe K) odx (seF org nw))) pb (.ins (aSe K) pdx (seF org nwp'))) = M3 at b3 sesB sesO sesP
        clear W w1 w2 w3 W1 W2 m2 m3 wd2 back b1 b2 hsbD hob hobM hpbM hpbD hm bs ses pst hsb e3 s13 s12 s1 s2 s3 q1 q2 q3 q4 q5
        have same : sameSes c ⟨es0, p0, []⟩ c ⟨es0, p0, []⟩ := ⟨rfl, rfl⟩
        refine ⟨_, rfl, _, rfl, ?_⟩
        refine w_eqS b3 sesO sesB (by omega) (by omega) fun H15 s15 => ⟨_, rfl, ?_⟩
        rw [decide_eq_true same]
        refine ⟨_, rfl, iteF ?_⟩
        have b4 := b3.heap s15
        refine ⟨_, rfl, _, rfl, ?_⟩
        refine w_eqS b4 sesP sesB (by omega) (by omega) fun H16 s16 => ⟨_, rfl, ?_⟩
        rw [decide_eq_true same]
        refine ⟨_, rfl, iteF ?_⟩
        have b5 := b4.heap s16
        obtain ⟨refs', t', a', l', cs', drefs, q1, q2, q3, q4, q5⟩ := pst3.last
        refine ⟨_, rfl, 1, rfl, lp, _, -1, .ref t', rfl, rfl, SqL.of (b5.d.b _ _ q1), atI_last _ _, t', _, _, .ref l', rfl, rfl, SqT.of (b5.d.b _ _ q2), atI_nat (j := 1) rfl, sz0, fun el hel => ?_⟩
        have d6 := b5.d.new hel (o := .lst [])
        have s6 := b5.d.sb hel (o := .lst [])
        have b6 := b5.same s6 d6
        refine ⟨.list ((c.map Prod.fst).reverse.map Deed.data), .list [], .lst (SqL.of (d6.b _ _ (s6 _ _ q4))) (dp_deeds (deeds_mono q5 (s6.trans d6.b))), .lst (SqL.of upd_same) .nil, shaped_deeds (fun d hd => deeds_az okc d (List.mem_reverse.mp hd)), by decide +kernel, ?_⟩
        rw [eqv_nilD]
        obtain ⟨c6d, W6⟩ := id d6
        refine ⟨_, rfl, fun nb ndx hnb hnd nne => session_made W6.w hnb hnd nne (sp3.mono s6) fun B7 nn H17 s17 w17 m17 => ?_⟩
        have W7 := drw_new W6 hnb s17 w17
        have b7 := b6.add hnb (nt_same.trans s17) ⟨c6d, W7⟩
        have hnbM : M3 nb = none := b6.d.fm hnb
        have e7 : LamX.ExtN B3 (nt B7) := ext_nt (s6.trans s17)
        have nb1 : ∀ {q : Addr} {o : HO}, M3 q = some o → (upd M3 nb (.ins (aSe K) ndx (seF org nn))) q = M3 q := fun h => upd_ne (ne_of_none h hnbM)
        have sesB7 := sesB.ext e7 (M' := upd M3 nb (.ins (aSe K) ndx (seF org nn))) (by obtain ⟨⟨_, _, h, _⟩, _⟩ := sesB; exact nb1 h)
        have sesO7 := sesO.ext e7 (M' := upd M3 nb (.ins (aSe K) ndx (seF org nn))) (by obtain ⟨⟨_, _, h, _⟩, _⟩ := sesO; exact nb1 h)
        have sesN : Ses K (nt B7) (upd M3 nb (.ins (aSe K) ndx (seF org nn))) nb org [] ⟨es0, p0, []⟩ := ⟨⟨ndx, nn, upd_same, m17.ext (nt_ext _)⟩, ok⟩
        refine ⟨_, rfl, ?_⟩
        refine w_eqS b7 sesN sesB7 (by simp) (by omega) fun H18 s18 => ⟨_, rfl, ?_⟩
        have heq : (c.map Prod.fst).reverse.isEmpty = decide (sameSes [] ⟨es0, p0, []⟩ c ⟨es0, p0, []⟩) := by
          cases c with
          | nil => exact (decide_eq_true (show sameSes [] _ [] _ from ⟨rfl, rfl⟩)).symm
          | cons q r =>
            rw [decide_eq_false (fun z => by have := congrArg List.length z.2; simp at this)]
            simp
        rw [heq]
        refine ⟨rfl, _, rfl, ?_⟩
        rw [decide_eq_true rfl]
        refine iteF ?_
        have b8 := b7.heap s18
        have pst8 := pst3.ext e7
        have sp8 := sp3.ext e7
        have nOB : sb ≠ ob := n1
        generalize nt B7 = B8 at b8 sesB7 sesO7 pst8 sp8
        generalize (upd M3 nb (.ins (aSe K) ndx (seF org nn))) = M8 at b8 sesB7 sesO7
        clear heq sesN nb1 hnbM b7 W7 w17 m17 W6 b6 d6 q1 q2 q3 q4 q5 b5 b4 b3 sesB sesO sesP pst3 sp3 e7 s6 s17
        refine ⟨_, rfl, by decide, by decide, ?_⟩
        refine for_it walk_range (fun i σ H' => ∃ c6 c10 c11 lq B M c2, σ = [some (.ref sa), some (.ref x.d), some (.int (0 + (i0 : Nat))), some (.ref lp), some (.ref org), some (.ref sb), c6, some (.ref ob), some (.ref pb), some (.ref lq), c10, c11] ∧ Bs x cP.2 B M H' ∧ LamX.ExtN B8 B ∧ M sb = M8 sb ∧ Ses K B M ob org c2 ⟨es0, p0, []⟩ ∧ Pst B lq c2 ⟨es0, p0, []⟩ ∧ LenOk c2 ⟨es0, p0, []⟩ ∧ c2.length ≤ c.length + i)
          ⟨_, _, _, lp, B8, M8, c, rfl, b8, fun _ _ h _ => h, rfl, sesO7, pst8, lo, Nat.le_refl _⟩ (fun _ _ _ _ _ => trivial) (fun i σ1 _ _ H19 hi pv y => ?_) (fun σ1 H19 pv => ?_)
        · obtain ⟨c6, c10, c11, lq, B, M, c2, rfl, bs, eB, eM, ses, pst, lo2, lc2⟩ := pv
          obtain ⟨rfl, rfl⟩ := y
          have hi3 : i < 3 := by omega
          have nP := sesB7.neP b8
          refine ⟨_, rfl, _, rfl, _, rfl, ?_⟩
          dsimp only [tNil]
          refine w_moved bs ses pst lo2 (by omega) fun B' M' lb c' H' e b' hm s' p' lo' lc' => ?_
          exact ⟨_, _, _, lb, B', M', c', rfl, b', eB.trans e, (hm sb nOB nP).trans eM, s', p', lo', by omega⟩
        · obtain ⟨c6', c10', c11', lq, B, M, c2, rfl, bs, eB, eM, sesO, pstO, lo2, lc2⟩ := pv
          have lc33 : c2.length ≤ 40 := by omega
          have sesB := sesB7.ext eB eM
          have pstB := pst8.ext eB
          have spB := sp8.ext eB
          clear sesB7 sesO7 pst8 sp8 b8 lc2 eB eM lo2
          obtain ⟨refs', t', a', l', cs', drefs, q1, q2, q3, q4, q5⟩ := pstO.last
          refine ⟨_, rfl, _, rfl, _, rfl, 1, rfl, lq, _, -1, .ref t', rfl, rfl, SqL.of (bs.d.b _ _ q1), atI_last _ _, t', _, _, .ref a', rfl, rfl, SqT.of (bs.d.b _ _ q2), atI_nat (j := 0) rfl, _, rfl, 1, rfl, lq, _, -1, .ref t', rfl, rfl, SqL.of (bs.d.b _ _ q1), atI_last _ _, t', _, _, .ref l', rfl, rfl, SqT.of (bs.d.b _ _ q2), atI_nat (j := 1) rfl, ?_⟩
          dsimp only [tNil]
          refine w_asnew bs sesO (by omega) q3 q4 q5 fun B1 H20 e1 b1 => ⟨_, rfl, iteF ?_⟩
          have sesO1 := sesO.ext e1 (M' := M) rfl
          have pstO1 := pstO.ext e1
          have sesB1 := sesB.ext e1 (M' := M) rfl
          have pstB1 := pstB.ext e1
          have spB1 := spB.ext e1
          clear q1 q2 q3 q4 q5 sesO pstO sesB pstB spB bs e1
          obtain ⟨refs', t', a', l', cs', drefs, q1, q2, q3, q4, q5⟩ := pstB1.last
          refine ⟨_, rfl, _, rfl, _, rfl, 1, rfl, lp, _, -1, .ref t', rfl, rfl, SqL.of (b1.d.b _ _ q1), atI_last _ _, t', _, _, .ref a', rfl, rfl, SqT.of (b1.d.b _ _ q2), atI_nat (j := 0) rfl, _, rfl, 1, rfl, lp, _, -1, .ref t', rfl, rfl, SqL.of (b1.d.b _ _ q1), atI_last _ _, t', _, _, .ref l', rfl, rfl, SqT.of (b1.d.b _ _ q2), atI_nat (j := 1) rfl, ?_⟩
          dsimp only [tNil]
          refine w_asnew b1 sesB1 (by omega) q3 q4 q5 fun B2 H21 e2 b2 => ⟨_, rfl, iteF ?_⟩
          have sesO2 := sesO1.ext e2 (M' := M) rfl
          have pstO2 := pstO1.ext e2
          have sesB2 := sesB1.ext e2 (M' := M) rfl
          have pstB2 := pstB1.ext e2
          have spB2 := spB1.ext e2
          clear q1 q2 q3 q4 q5 sesO1 pstO1 sesB1 pstB1 spB1 b1 e2
          obtain ⟨⟨dx, nw, hsb, hm⟩, okB⟩ := id sesB2
          have hsbH := b2.d.m _ _ hsb
          obtain ⟨dmo, bmo, mdx, sp, hn, hsp⟩ := hm.hd
          obtain ⟨sdx2, su, ssa, hsp1, _, _⟩ := id hsp
          have hnH := b2.d.b _ _ hn
          refine ⟨_, rfl, _, rfl, sb, dx, _, rfl, hsbH, sb, dx, org, nw, mdx, sp, _, dmo, bmo, rfl, hsbH, hnH, .inl ⟨sp, _, _, _, rfl, b2.d.b _ _ hsp1, T.nf_Speller⟩, sb, dx, _, rfl, hsbH, sb, dx, org, nw, c, ⟨es0, p0, []⟩, .ref sp, rfl, hsbH, hm.mono b2.d.b, okB, by omega, .inr (.inl ⟨sp, _, _, rfl, b2.d.b _ _ hsp1, _, rfl, ?_⟩)⟩
          refine ⟨_, rfl, iteF ?_⟩
          refine ⟨_, rfl, .inr ⟨rfl, T.nf_None⟩, sb, dx, _, rfl, hsbH, sb, dx, org, nw, c, ⟨es0, p0, []⟩, .non, rfl, hsbH, hm.mono b2.d.b, okB, by omega, .inr (.inr ⟨rfl, _, rfl, ?_⟩)⟩
          refine ⟨_, rfl, iteF ?_⟩
          clear hsbH hnH hsp1 hsp hn hm hsb
          obtain ⟨refsD, vD, qla, pdn⟩ := pstB2.down
          refine ⟨_, rfl, 1, rfl, _, rfl, lp, _, rfl, SqL.of (b2.d.b _ _ qla), fun l1 hl1 => ⟨l1, _, rfl, SqL.of upd_same, fun l2 hl2 => ⟨l2, rfl, ⟨_, SqL.of upd_same⟩, ?_⟩⟩⟩
          rw [cutV_m1] at hl2 ⊢
          have d3 := b2.d.new hl1 (o := .lst refsD)
          have s3 := b2.d.sb hl1 (o := .lst refsD)
          have d4 := d3.new hl2 (o := .lst refsD.reverse)
          have s4 := d3.sb hl2 (o := .lst refsD.reverse)
          have b4 := b2.same (s3.trans s4) d4
          have e4 : LamX.ExtN B2 _ := ext_nt (s3.trans s4)
          have hl2B := nt_ext _ _ _ (show (upd (upd B2 l1 (.lst refsD)) l2 (.lst refsD.reverse)) l2 = _ from upd_same) (fun _ z => by cases z)
          have sesO4 := sesO2.ext e4 (M' := M) rfl
          have pstO4 := pstO2.ext e4
          have sesB4 := sesB2.ext e4 (M' := M) rfl
          have spB4 := spB2.ext e4
          have pdn4 := past_ext pdn e4
          generalize nt (upd (upd B2 l1 (.lst refsD)) l2 (.lst refsD.reverse)) = B4 at b4 hl2B sesO4 pstO4 sesB4 spB4 pdn4
          clear e4 d4 s4 d3 s3 sesO2 pstO2 sesB2 pstB2 spB2 pdn qla b2
          have lrv : refsD.reverse.length = c.length := by rw [pdn4.length, downs_len]
          refine for_it (walk_list (xs := refsD.reverse)) (fun i σ H' => ∃ c6 c10 c11 B5 M5, σ = [some (.ref sa), some (.ref x.d), some (.int (0 + (i0 : Nat))), some (.ref lp), some (.ref org), some (.ref sb), c6, some (.ref ob), some (.ref pb), some (.ref lq), c10, c11] ∧ Bs x cP.2 B5 M5 H' ∧ LamX.ExtN B4 B5 ∧ M5 ob = M ob ∧ Ses K B5 M5 sb org (c.drop i) ⟨es0, p0, []⟩)
            ⟨_, _, _, B4, M, rfl, b4, fun _ _ h _ => h, rfl, sesB4⟩ (fun _ _ H' _ pv => ?_) (fun i v σ1 H' H22 hi pv y => ?_) (fun σ1 H22 pv => ?_)
          · obtain ⟨c6', c10', c11', B5, M5, rfl, b5, e5, _, _⟩ := pv
            exact SqL.of (b5.d.b _ _ (e5 _ _ hl2B (fun _ z => by cases z)))
          · obtain ⟨c6', c10', c11', B5, M5, rfl, b5, e5, eM, ses⟩ := pv
            obtain ⟨rfl, hv⟩ := y
            obtain ⟨cn, hcn, pa⟩ := paired_at pdn4 hv
            obtain ⟨q0, hd1, hd2⟩ := downs_at hcn
            obtain ⟨t2, a2, l2', cs2, drefs2, rfl, q1, q2, q3, q4⟩ := pa.ext e5
            rw [hd1] at ses
            obtain ⟨⟨sdx5, nw5, hsb5, hm5⟩, ok5⟩ := id ses
            refine ⟨t2, _, rfl, SqT.of (b5.d.b _ _ q1), rfl, _, _, rfl, _, _, rfl, rfl, ?_⟩
            obtain ⟨cd5, wd5, hsb5D, back5⟩ := drw_put b5.d hsb5
            refine ⟨_, rfl, sb, sdx5, _, rfl, wd5.m _ _ hsb5D, seF_no (by decide +kernel) (by decide +kernel) (by decide +kernel), sz1, fun ta hta => ?_⟩
            have wd6 := wd5.new hta (o := .tup [.str "undo"])
            have s6 := wd5.sb hta (o := .tup [.str "undo"])
            refine ⟨_, _, sb, sdx5, org, nw5, ta, q0 :: cn, ⟨es0, p0, []⟩, rfl, wd6, hsb5D, hm5.mono s6, ok5, none, upd_same, .inl ⟨cn, .undo, fun B7 now7 o7 H23 s7 w7 m7 _ => ?_⟩⟩
            have d7 := back5 _ _ _ (s6.trans s7) w7
            have b7 := b5.chg hsb5 (s6.trans s7) d7
            have e7 : LamX.ExtN B5 (nt B7) := ext_nt (s6.trans s7)
            have ses7 : Ses K (nt B7) (upd M5 sb (.ins (aSe K) sdx5 (seF org now7))) sb org cn ⟨es0, p0, []⟩ := ⟨⟨sdx5, now7, upd_same, m7.ext (nt_ext _)⟩, ok5.2⟩
            have lcn : cn.length ≤ 200 := by
              have := congrArg List.length hd2
              rw [List.length_drop] at this
              omega
            refine ⟨_, rfl, _, rfl, _, rfl, ?_⟩
            dsimp only [tNil]
            refine w_stands b7 ses7 lcn (q2.ext e7) (e7 _ _ q3 (fun _ z => by cases z)) (deeds_ext e7 q4) fun B8 H24 e8 b8 => ⟨_, rfl, iteF ?_⟩
            refine ⟨_, _, _, B8, _, rfl, b8, e5.trans (e7.trans e8), by rw [upd_ne (Ne.symm nOB)]; exact eM, ?_⟩
            rw [hd2]
            exact ses7.ext e8 rfl
          · obtain ⟨c6', c10', c11', B5, M5, rfl, b5, e5, eM, _⟩ := pv
            have sesO5 := sesO4.ext e5 eM
            have pstO5 := pstO4.ext e5
            have spB5 := spB4.ext e5
            obtain ⟨⟨odx5, nw5, hob5, hmO⟩, okO⟩ := id sesO5
            have hob5H := b5.d.m _ _ hob5
            obtain ⟨odx0, u0, sa0, horg, _, _⟩ := id spB5
            have horgH := b5.d.b _ _ horg
            refine ⟨_, rfl, ob, odx5, _, rfl, hob5H, ob, odx5, _, .ref org, rfl, hob5H, seF_o, _, rfl, ⟨org, _, _, rfl, horgH⟩, org, _, _, rfl, horgH, org, org, es0, es0, p0, p0, rfl, spB5.mono b5.d.b, spB5.mono b5.d.b, ok.es, ok.es, fun H25 s25 => ⟨_, rfl, ?_⟩⟩
            rw [decide_eq_true ⟨rfl, rfl⟩]
            have b6 := b5.heap s25
            refine ⟨_, rfl, iteF ?_⟩
            obtain ⟨refs', t', a', l', cs', drefs, q1, q2, q3, q4, q5⟩ := pstO5.last
            refine ⟨_, rfl, _, rfl, _, rfl, 1, rfl, lq, _, -1, .ref t', rfl, rfl, SqL.of (b6.d.b _ _ q1), atI_last _ _, t', _, _, .ref a', rfl, rfl, SqT.of (b6.d.b _ _ q2), atI_nat (j := 0) rfl, _, rfl, 1, rfl, lq, _, -1, .ref t', rfl, rfl, SqL.of (b6.d.b _ _ q1), atI_last _ _, t', _, _, .ref l', rfl, rfl, SqT.of (b6.d.b _ _ q2), atI_nat (j := 1) rfl, ?_⟩
            dsimp only [tNil]
            refine w_asnew b6 sesO5 (by omega) q3 q4 q5 fun B7 H26 e7 b7 => ⟨_, rfl, iteF ?_⟩
            refine ⟨_, rfl, _, rfl, x, B7, _, org, es0, p0, rfl, b7.d, spB5.ext e7, ok.es, ok.p, fun B8 H27 s8 d8 => ⟨_, rfl, iteF ?_⟩⟩
            exact ⟨⟨_, _, _, _, _, _, _, _, _, _, rfl⟩, _, _, b7.same s8 d8⟩
    · obtain ⟨⟨b2, b3, b4, b5, b6, b7, b8, b9, b10, b11, rfl⟩, B3, M3, bs3⟩ := pv
      exact k _
end
end Mw
/-! W34: the end of the law: one table, nothing is being shown -/
namespace Mw
open PySem PySem.Spec PyProof.Rows L2
/-- what is told of the heap at the law's entry: the table at Pt is empty; z tells of the script at a -/
def entH (Pt a : Addr) (z : Option HO) : Hp := fun b => if b = Pt then some (.tbl #[]) else if b = a then z else none
theorem entH_P {Pt a : Addr} {z : Option HO} : entH Pt a z Pt = some (.tbl #[]) := if_pos rfl
theorem entH_a {Pt a : Addr} {z : Option HO} (h : a ≠ Pt) : entH Pt a z a = z := (if_neg h).trans (if_pos rfl)
theorem entH_o {Pt a b : Addr} {z : Option HO} (h1 : b ≠ Pt) (h2 : b ≠ a) : entH Pt a z b = none := (if_neg h1).trans (if_neg h2)
section
variable {P : Program} {w : World} {K : PySem.W.Frag} {mg mb : Str → Option Value} {k : Nat} {fa a c Pt : Addr} {fd : FuncData} {x : Str} {sp : Sp} {st : Shared} {us : List Value} {ns : List Int}
theorem law_callG (inK : K.In st.heap) (gl : st.heap.Ns mainGlobals mg) (bl : st.heap.Ns builtinsNs mb) (boot : ∀ y : Str, y ≠ "__name__" → mb y = bootBuiltins y) (nl : st.heap.NoLimit) (ge : st.gens = #[])
    (eP : st.heap.get? Pt = some { cls := .none, data := .fields #[] }) (kP : K.lookup Pt = none) (cP : PySem.W.CodeHd st.heap c Pt) (bm : ∃ (m : Addr) (ob : Obj), mg "__builtins__" = some (.ref m) ∧ m ≠ builtinsNs ∧ st.heap.get? m = some ob ∧ ob.cls = .type "module" ∧ ob.dict = some builtinsNs ∧ ob.data = .plain)
    (ea : st.heap.get? a = some { cls := .type "list", data := .seq us.toArray }) (ii : IntsAre us ns) (sz : ns.length ≤ sizeLine) (rm : Room k callerA)
    (F : ∀ hidden : Heap, K.In hidden → hidden.Ns mainGlobals mg → LamX.TabB hidden mg c Pt → FnOkG P w K mg hidden CX0 k fa fd [x] sp) (bd : ∀ (s : Shared) (u : Value), BindsTo s fd ⟨[u], []⟩ [(x, u)])
    (goal : ∀ H : Hp, H Pt = some (.tbl #[]) → SqL K H a (ns.map V.int) → sp [.ref a] H (fun v _ => v = .bl true) fun _ _ _ => False) :
    codeAny (model P w) callerA (.call (.ref fa) ⟨[.ref a], []⟩) (fun r s' => r = .ok (.ret (.bool true)) ∧ OldK st.heap s'.heap ∧ s'.os = st.os ∧ AllBare s'.gens) st := by
  have vals := vals_ints ii
  have len := ii.length
  have naP : a ≠ Pt := fun z => by
    rw [z, eP] at ea
    have z' : Data.fields #[] = Data.seq us.toArray _ := congrArg Obj.data (Option.some.inj ea)
    cases z'
  -- the script: written, or locked
  have script : ∃ z : Option HO, (∀ u, z = some u → u = .frz { cls := .type "list", data := .seq us.toArray } (.lst (ns.map V.int)) ∧ K.lookup a = none) ∧ SqL K (entH Pt a z) a (ns.map V.int) := by
    cases q : K.lookup a with
    | none => exact ⟨some (.frz { cls := .type "list", data := .seq us.toArray } (.lst (ns.map V.int))), fun u e => ⟨(Option.some.inj e).symm, rfl⟩, .inl (.inr ⟨_, entH_a naP⟩)⟩
    | some o =>
      obtain rfl := Option.some.inj (ea.symm.trans (inK a o q))
      exact ⟨none, fun u e => (nomatch e), .inr ⟨_, us.toArray, _, q, rfl, rfl, rfl, by rw [List.size_toArray, len]; exact sz, by simpa using vals⟩⟩
  obtain ⟨z, hz, sq⟩ := script
  have tr : ∀ {b : Addr} {u : HO}, entH Pt a z b = some u → (b = Pt ∧ u = .tbl #[]) ∨ (b = a ∧ z = some u) := fun {b u} e => by
    by_cases q1 : b = Pt
    · rw [q1, entH_P] at e
      exact .inl ⟨q1, (Option.some.inj e).symm⟩
    · by_cases q2 : b = a
      · rw [q2, entH_a naP] at e
        exact .inr ⟨q2, e⟩
      · rw [entH_o q1 q2] at e
        cases e
  have free : ∀ {b : Addr} {o : Obj}, st.heap.get? b = some o → (∀ v n, o.data ≠ .seq v n) → o.data ≠ .fields #[] → entH Pt a z b = none := fun {b o} e h1 h2 => entH_o (fun q => by
    rw [q, eP] at e
    cases e
    exact h2 rfl) (fun q => by
    rw [q, ea] at e
    cases e
    exact h1 _ _ rfl)
  have held : HOk P w (entH Pt a z) st.heap := fun b u e => by
    rcases tr e with ⟨rfl, rfl⟩ | ⟨rfl, q⟩
    · exact eP
    · obtain ⟨rfl, _⟩ := hz u q
      exact ⟨ea, by rw [List.length_map]; exact sz, us, _, vals, ea⟩
  have keep : ∀ {b : Addr} {o : Obj}, st.heap.get? b = some o → (∀ v n, o.data ≠ .seq v n) → o.data ≠ .fields #[] → (hidT st.heap (entH Pt a z)).get? b = some o := fun e h1 h2 => hidT_get e (free e h1 h2)
  have dict : ∀ {b : Addr} {m : Str → Option Value}, st.heap.Ns b m → (hidT st.heap (entH Pt a z)).Ns b m := fun {b m} ⟨o, es, ep, e, d, r⟩ => ⟨o, es, ep, keep e (fun v n q => by rw [d] at q; cases q) (fun q => by rw [d] at q; cases q), d, r⟩
  have inB : K.In (hidT st.heap (entH Pt a z)) := fun b o e => hidT_get (inK b o e) (by
    cases q : entH Pt a z b with
    | none => rfl
    | some u =>
      rcases tr q with ⟨rfl, _⟩ | ⟨rfl, q2⟩
      · rw [kP] at e
        cases e
      · rw [(hz u q2).2] at e
        cases e)
  have md : L2.Mod K mg (hidT st.heap (entH Pt a z)) := ⟨inB, dict gl, ⟨mb, dict bl, boot⟩, let ⟨mc, h1, h2⟩ := nl; ⟨mc, dict h1, h2⟩⟩
  have neG : mainGlobals ≠ Pt := fun q => by
    obtain ⟨o, es, ep, e, d, _⟩ := gl
    rw [q, eP] at e
    cases e
    cases d
  have tab : LamX.TabB (hidT st.heap (entH Pt a z)) mg c Pt := by
    refine ⟨?_, ?_, neG⟩
    · obtain ⟨o, vs, file, tf, flags, tg, inF, text, tt, e, r1, r2, r3, r⟩ := cP
      refine ⟨o, vs, file, tf, flags, tg, inF, text, tt, keep e (fun v n q => by rw [r2] at q; cases q) (fun q => ?_), r1, r2, r3, r⟩
      rw [r2] at q
      cases q
      simp at r3
    · obtain ⟨m, ob, h1, h2, h3, h4, h5, h6⟩ := bm
      refine ⟨m, ob, h1, h2, fun q => ?_, fun q => ?_, keep h3 (fun v n q => by rw [h6] at q; cases q) (fun q => by rw [h6] at q; cases q), h4, h5, h6⟩
      · obtain ⟨o, es, ep, e, d, _⟩ := gl
        rw [q, e] at h3
        cases h3
        rw [d] at h6
        cases h6
      · rw [q, eP] at h3
        cases h3
        cases h6
  have enter : Env0 P w K mg (hidT st.heap (entH Pt a z)) callerA [] st (entH Pt a z) := ⟨rfl, md, fun b o e => of_hidT e, Nat.le_of_eq (hidT_size _ _), trivial, fun b hb => absurd (show b ∈ ([] : List Addr) from hb) (by simp), held, .of_eq ge⟩
  refine codeAny_mono ((F _ inB (dict gl) tab).run callerA [] st (entH Pt a z) ⟨[.ref a], []⟩ [.ref a] [.ref a] _ _ rm rfl enter (bd st (.ref a)) (.cons rfl .nil) (goal _ entH_P sq)) fun r s' out => ?_
  cases r with
  | error e => exact False.elim out
  | ok fl =>
    cases fl with
    | next => exact False.elim out
    | brk => exact False.elim out
    | cont => exact False.elim out
    | ret u =>
      obtain ⟨v, H', eo, bare, un, held', ru, hv⟩ := out
      obtain rfl : v = .bl true := hv
      obtain rfl : u = Value.bool true := ru
      have stays : ∀ b o, b ≠ Pt → st.heap.get? b = some o → s'.heap.get? b = some o := fun b o nb e => by
        cases q : entH Pt a z b with
        | none => exact un.keep b o e q (fun y => absurd (show b ∈ ([] : List Addr) from y) (by simp)) (by simp)
        | some u =>
          rcases tr q with ⟨q1, _⟩ | ⟨rfl, q2⟩
          · exact absurd q1 nb
          · obtain ⟨rfl, _⟩ := hz u q2
            have y1 := (held b _ q).1
            have y2 := (held' b _ (un.frzs b _ _ q)).1
            rw [e] at y1
            rw [Option.some.inj y1]
            exact y2
      obtain ⟨more, hm⟩ := un.tbls Pt #[] entH_P
      have grown : s'.heap.get? Pt = some { cls := .none, data := .fields (#[] ++ more) } := held' Pt _ hm
      refine ⟨rfl, ⟨fun b o e => ?_, fun b o e => ?_⟩, eo, bare⟩
      · by_cases q : b = Pt
        · subst q
          obtain rfl := Option.some.inj (eP.symm.trans e)
          exact .inr (.inl ⟨(cP.tab eP).isCodeTable, rfl, #[], more, rfl, grown⟩)
        · exact .inl (stays b o q e)
      · by_cases q : b = Pt
        · subst q
          exact ⟨_, grown⟩
        · exact ⟨o, stays b o q e⟩
/-- what is known of the law at the head's heap h -/
def LawAtG (l : PySem.W.OpenLaw) (w : World) (K : PySem.W.Frag) (k n : Nat) (x : Str) (mg : Str → Option Value) (fa : Addr) (h : Heap) : Prop :=
  ∃ (fd : FuncData) (c Pt : Addr) (sp : Sp), h.get? Pt = some { cls := .none, data := .fields #[] } ∧ K.lookup Pt = none ∧ PySem.W.CodeHd h c Pt ∧ (∀ (s : Shared) (u : Value), BindsTo s fd ⟨[u], []⟩ [(x, u)]) ∧
    (∀ (H : Hp) (a : Addr) (ns : List Int), ns.length ≤ n → H Pt = some (.tbl #[]) → SqL K H a (ns.map V.int) → sp [.ref a] H (fun v _ => v = .bl true) fun _ _ _ => False) ∧
    ∀ hidden : Heap, K.In hidden → hidden.Ns mainGlobals mg → LamX.TabB hidden mg c Pt → FnOkG l.prog w K mg hidden CX0 k fa fd [x] sp
theorem walk_ofG {l : PySem.W.OpenLaw} {n k : Nat} {q : Program} {loose : List Str} {XP : (Str → Option Value) → Heap → Prop} {YP : World → Heap → Prop} {d : DefRec} {x : Str} (most : l.most = some n) (line : n ≤ sizeLine) (nodf : d.params.defaults = []) (rm : Room k callerA)
    (F : ∀ (w : World) (mg : Str → Option Value) (fa : Addr) (h : Heap), YP w h → h.Ns mainGlobals mg → mg d.name = some (.ref fa) → ∃ K : PySem.W.Frag, K.In h ∧ LawAtG l w K k n x mg fa h) :
    PySem.W.WalkO q loose XP YP l.row.toRowW d [] (fun f vs => PySem.call f vs) := by
  refine Att.attach_callB most nodf fun w s₀ s₁ mg mb fa o pm cd doc a vs ns G Y ho hd hcd hmg hobj hints hlen hbits hg => ?_
  obtain ⟨K, inK, fd, c, Pt, sp, eP, kP, cP, bd, goal, hF⟩ := F w mg fa _ Y G.T.g hmg
  exact law_callG inK G.T.g G.T.b G.T.builtins G.T.nolimit hg eP kP cP G.T.bmain hobj hints (Nat.le_trans hlen line) rm hF bd fun H h1 h2 => goal H a ns hlen h1 h2
end
end Mw
/-! W35: what the head is asked, and what it tells -/
namespace Mw
open PySem PySem.Spec PyProof.Rows L2
/-! ### a part of the heap -/
/-- what an object leads to -/
def ledTo (o : Obj) : List Addr := match o.data with
  | .dict es _ => es.toList.flatMap fun e => He.refV e.val
  | .func fd => He.refV fd.code ++ (He.refV fd.defaults ++ (He.refV fd.kwdefaults ++ fd.closure.map (·.2)))
  | .cls cd => [cd.ns]
  | .fields vs => (match o.cls with
    | .type n => (match decide (n = "property") with
      | true => vs.toList.flatMap He.refV
      | false => [])
    | _ => [])
  | _ => []
def ledOn (g : Addr → Option Obj) (as : List Addr) : List Addr := as.flatMap fun a => match g a with
  | some o => ledTo o
  | none => []
def ledN (g : Addr → Option Obj) : Nat → List Addr → List Addr
  | 0, as => as
  | n + 1, as => as ++ ledN g n (ledOn g as)
/-- a list whose cells are laid out first -/
def laidOut {α β : Type} : List α → (List α → β) → β
  | [], k => k []
  | x :: r, k => laidOut r fun r' => k (x :: r')
theorem laidOut_eq {α β : Type} : ∀ (l : List α) (k : List α → β), laidOut l k = k l
  | [], _ => rfl
  | x :: r, k => laidOut_eq r fun r' => k (x :: r')
def partK (g : Addr → Option Obj) : PySem.W.Frag := He.frT g (cStatics :: ledN g 5 [mainGlobals])
/-! ### BadEntry's __init__ -/
abbrev SupV : Type := Option (Str × Str × Arguments × FuncBody × Scope × Addr × List Str × Addr)
def supObs (K : PySem.W.Frag) (f : Addr) : SupV := match K.lookup f with
  | some ⟨_, _, .func fd, _⟩ => some (fd.name, fd.qualname, fd.params, fd.body, fd.scope, fd.globals, fd.closure.map (·.1), fd.builtins)
  | _ => none
def supB (K : PySem.W.Frag) (C f : Addr) (qual : Str) : Bool := match K.lookup f with
  | some ⟨_, _, .func fd, _⟩ => (match fd.closure, fd.defaults, fd.code with
    | [(_, cc)], .none, .ref cda => PySem.W.codeIn K (.ref cda) qual && ((match K.lookup cc with
        | some ⟨_, _, .cell (some (.ref D)), _⟩ => decide (D = C)
        | _ => false) && (match K.lookup cda with
        | some ⟨_, _, .fields vs, _⟩ => (match (vs[2]? : Option Value) with
          | some (.str z _) => decide (z = ("/claim/cut.py" : Str))
          | _ => false)
        | _ => false))
    | _, _, _ => false)
  | _ => false
theorem supB_ok {K : PySem.W.Frag} {C f : Addr} {qual : Str} {params : Arguments} {body : List Stmt} {scope : Scope} (h : supB K C f qual = true) (e : supObs K f = (some ("__init__", qual, params, .stmts body, scope, mainGlobals, ["__class__"], builtinsNs) : SupV)) :
    ∃ (oc : Value) (od : Option Addr) (osl : Array (Option Value)) (kV doc pm ct : Value) (an : Option Addr) (cda cc : Addr),
    K.lookup f = some ⟨oc, od, .func (PySem.W.fnX "__init__" qual params body scope [("__class__", cc)] .none kV doc pm an (.ref cda) ct), osl⟩ ∧ PySem.W.codeIn K (.ref cda) qual = true ∧
    (∃ (cl : Value) (cld : Option Addr) (csl : Array (Option Value)), K.lookup cc = some ⟨cl, cld, .cell (some (.ref C)), csl⟩) ∧
    ∃ (ccl : Value) (cdd : Option Addr) (vs : Array Value) (ccs : Array (Option Value)) (tf : Tok), K.lookup cda = some ⟨ccl, cdd, .fields vs, ccs⟩ ∧ vs[2]? = some (.str "/claim/cut.py" tf) := by
  unfold supB at h
  unfold supObs at e
  cases q : K.lookup f with
  | none => rw [q] at h; cases h
  | some o =>
    obtain ⟨oc, od, dt, osl⟩ := o
    rw [q] at h e
    cases dt with
    | func fd =>
      obtain ⟨n1, n2, n3, n4, n5, n6, n7, n8, n9, n10, n11, n12, n13, n14, n15⟩ := fd
      have e2 : (some (n1, n2, n3, n4, n5, n6, n7.map (·.1), n15) : SupV) = (some ("__init__", qual, params, .stmts body, scope, mainGlobals, ["__class__"], builtinsNs) : SupV) := e
      simp only [Option.some.injEq, Prod.mk.injEq] at e2
      obtain ⟨h1, h2, h3, h4, h5, h6, h7, h8⟩ := e2
      subst h1 h2 h3 h4 h5 h6 h8
      match n7, n8, n13, h7, h with
      | [(x, cc)], .none, .ref cda, h7, h =>
        have ex : x = "__class__" := by simpa using h7
        subst ex
        obtain ⟨k1, k2⟩ := Bool.and_eq_true_iff.mp h
        obtain ⟨k3, k4⟩ := Bool.and_eq_true_iff.mp k2
        refine ⟨oc, od, osl, n9, n10, n11, n14, n12, cda, cc, rfl, k1, ?_, ?_⟩
        · cases q2 : K.lookup cc with
          | none => rw [q2] at k3; cases k3
          | some o2 =>
            obtain ⟨cl, cld, d2, csl⟩ := o2
            rw [q2] at k3
            cases d2 with
            | cell v =>
              cases v with
              | none => cases k3
              | some v =>
                cases v with
                | ref D =>
                  have eD : D = C := of_decide_eq_true k3
                  subst eD
                  exact ⟨_, _, _, rfl⟩
                | _ => cases k3
            | _ => cases k3
        · cases q2 : K.lookup cda with
          | none => rw [q2] at k4; cases k4
          | some o2 =>
            obtain ⟨cl, cld, d2, csl⟩ := o2
            rw [q2] at k4
            cases d2 with
            | fields vs =>
              cases q3 : vs[2]? with
              | none => 
                have k5 : (match (vs[2]? : Option Value) with | some (.str z _) => decide (z = ("/claim/cut.py" : Str)) | _ => false) = true := k4
                rw [q3] at k5
                cases k5
              | some v =>
                have k5 : (match (vs[2]? : Option Value) with | some (.str z _) => decide (z = ("/claim/cut.py" : Str)) | _ => false) = true := k4
                rw [q3] at k5
                cases v with
                | str z tf =>
                  have ez : z = "/claim/cut.py" := of_decide_eq_true k5
                  subst ez
                  exact ⟨_, _, vs, _, tf, rfl, q3⟩
                | _ => cases k5
            | _ => cases k4
    | _ => cases h
/-! ### classes -/
def oexB (K : PySem.W.Frag) (C : Addr) : Bool := (match K.lookup C with
  | some ⟨.type t, _, .cls cd, sl⟩ => decide (t = "type") && ((match cd.mro with
      | .ref C' :: bm => decide (C' = C) && PySem.HandSPX.refsVE bm
      | _ => false) && ((match sl.toList with
      | [_, _, _, _, some (.builtin n), _] => decide (n = "ValueError.__new__")
      | _ => false) && (!cd.hasDel && cd.hasDict)))
  | _ => false) && (decide (PySem.W.findIn K (.ref C) "__setattr__" = some (some (.builtin "object.__setattr__"))) && (decide (PySem.W.subIn K (.ref C) (.type "BaseException") = some true) && (decide (PySem.W.typeIn K (.ref C) = some (.type "type")) && PySem.W.keepIn K (.ref C))))
theorem arr_of {α : Type} {a : Array α} {l : List α} (h : a.toList = l) : a = l.toArray := by
  rw [← h]
theorem oexB_ok {K : PySem.W.Frag} {C : Addr} (h : oexB K C = true) : OexC K C := by
  obtain ⟨h1, h⟩ := Bool.and_eq_true_iff.mp h
  obtain ⟨h2, h⟩ := Bool.and_eq_true_iff.mp h
  obtain ⟨h3, h⟩ := Bool.and_eq_true_iff.mp h
  obtain ⟨h4, h5⟩ := Bool.and_eq_true_iff.mp h
  refine ⟨?_, of_decide_eq_true h2, of_decide_eq_true h3, of_decide_eq_true h4, h5⟩
  cases q : K.lookup C with
  | none => rw [q] at h1; cases h1
  | some o =>
    obtain ⟨oc, od, dt, osl⟩ := o
    rw [q] at h1
    cases oc with
    | type t =>
      cases dt with
      | cls cd =>
        obtain ⟨k1, k⟩ := Bool.and_eq_true_iff.mp (show (decide (t = "type") && _) = true from h1)
        obtain ⟨k2, k⟩ := Bool.and_eq_true_iff.mp k
        obtain ⟨k3, k⟩ := Bool.and_eq_true_iff.mp k
        obtain ⟨k4, k5⟩ := Bool.and_eq_true_iff.mp k
        have et : t = "type" := of_decide_eq_true k1
        subst et
        obtain ⟨nm, bs, mro, ns, qn, hd, sn, sb, ab, col, del⟩ := cd
        match mro, k2 with
        | .ref C' :: bm, k2 =>
          obtain ⟨k6, k7⟩ := Bool.and_eq_true_iff.mp (show (decide (C' = C) && PySem.HandSPX.refsVE bm) = true from k2)
          have eC : C' = C := of_decide_eq_true k6
          subst eC
          have kd : hd = true := k5
          have kx : del = false := by
            have : (!del) = true := k4
            simpa using this
          subst kd kx
          match hl : osl.toList, k3 with
          | [s0, s1, s2, s3, some (.builtin n), s5], k3 =>
            have en : n = "ValueError.__new__" := of_decide_eq_true (show decide (n = "ValueError.__new__") = true from k3)
            subst en
            refine ⟨nm, qn, ns, bs, bm, sn, sb, ab, col, od, s0, s1, s2, s3, s5, ?_, k7⟩
            rw [arr_of hl]
      | _ => cases h1
    | _ => cases dt <;> cases h1
def insB (K : PySem.W.Frag) (C : Addr) : Bool := decide (PySem.W.findIn K (.ref C) "__class__" = some (some (.builtin "object.__class__"))) && (decide (PySem.W.specialIn K (.builtin "object.__class__") "__get__" = some (some (.builtin "getset_descriptor.__get__"))) &&
  (decide (PySem.W.takesIn K (.builtin "object.__class__") = some true) && (decide (PySem.W.mroIn K C (.type "object") = some true) && decide (PySem.W.kitOne K (.ref C) (.ref C) = some true))))
theorem insB_ok {K : PySem.W.Frag} {C : Addr} (c : L2.Cls K C) (h : insB K C = true) : C8.InsC K C := by
  obtain ⟨h1, h⟩ := Bool.and_eq_true_iff.mp h
  obtain ⟨h2, h⟩ := Bool.and_eq_true_iff.mp h
  obtain ⟨h3, h⟩ := Bool.and_eq_true_iff.mp h
  obtain ⟨h4, h5⟩ := Bool.and_eq_true_iff.mp h
  exact ⟨c, of_decide_eq_true h1, of_decide_eq_true h2, of_decide_eq_true h3, of_decide_eq_true h4, of_decide_eq_true h5⟩
/-- C's f is a property whose getter is at pga -/
def propB (K : PySem.W.Frag) (C : Addr) (f : Str) : Bool := decide (PySem.W.findIn K (.ref C) f = some (some (.ref (He.ma K C f)))) && (decide (PySem.W.specialIn K (.ref (He.ma K C f)) "__get__" = some (some (.builtin "property.__get__"))) &&
  (decide (PySem.W.takesIn K (.ref (He.ma K C f)) = some true) && (match PySem.W.recIn K (He.ma K C f) "property" with
    | some (.ref g :: _) => decide (g = pga K C f)
    | _ => false)))
theorem propB_ok {K : PySem.W.Frag} {C : Addr} {f : Str} (h : propB K C f = true) : PropOf K C f (He.ma K C f) (pga K C f) := by
  obtain ⟨h1, h⟩ := Bool.and_eq_true_iff.mp h
  obtain ⟨h2, h⟩ := Bool.and_eq_true_iff.mp h
  obtain ⟨h3, h4⟩ := Bool.and_eq_true_iff.mp h
  refine ⟨of_decide_eq_true h1, of_decide_eq_true h2, of_decide_eq_true h3, ?_⟩
  cases q : PySem.W.recIn K (He.ma K C f) "property" with
  | none => rw [q] at h4; cases h4
  | some l =>
    rw [q] at h4
    match l, h4 with
    | .ref g :: r, h4 =>
      have e : g = pga K C f := of_decide_eq_true h4
      rw [e]
      exact ⟨r, rfl⟩
theorem meth_ok {K : PySem.W.Frag} {x m : Str} (h : (He.Fa.meth x m).ok K = true) : Meth K (He.ga K x) m (He.ma K (He.ga K x) m) := He.meth_ok h
/-! ### the dict PARTS -/
def partKeys : List Str := partL.map (·.1)
def partVals : List (Str × He.Dv) := partL.map fun q => (q.1, .int q.2)
theorem parts_of {K : PySem.W.Frag} {w : World} {mg : Str → Option Value} (h1 : mg "PARTS" = some (.ref (He.ga K "PARTS"))) (h2 : He.valsB K (He.ga K "PARTS") partVals = true) (h3 : He.dicW K (He.ga K "PARTS") = some (He.keysIn w.params partKeys)) : PartsAt w K mg := by
  obtain ⟨es, n, D⟩ := He.dicW_ok h3
  obtain ⟨d1, d2, d3⟩ := D
  refine ⟨_, h1, d3, fun q hq => ?_⟩
  obtain ⟨u, hu, r⟩ := He.valsB_ok h2 (q := (q.1, .int q.2)) (List.mem_map.mpr ⟨q, hq, rfl⟩)
  exact ⟨es, n, u, d1, d2, hu, r⟩
/-! ### the Hook -/
abbrev movedAt : He.Defn := ("_law_moved", none)
def beP : SupV := some ("__init__", "BadEntry.__init__", defArgs (inClass (top 5) 0), .stmts (defBody (inClass (top 5) 0)), defScope (inClass (top 5) 0), mainGlobals, ["__class__"], builtinsNs)
abbrev AlM : Type := (Bool × List He.FnW) × (SupV × Option (List (Option (Str × Int))))
def tableB (g : Addr → Option Obj) (K : PySem.W.Frag) : Bool := PySem.W.codeHdIn K (He.cT K movedAt).1 (He.cT K movedAt).2 && (match g (He.cT K movedAt).2 with
  | some o => He.emptyTab o
  | none => false)
section
variable (fa : List He.Fa) (ex : List (PySem.W.Frag → Bool)) (fn : List He5.DefA)
def obsK (g : Addr → Option Obj) (K : PySem.W.Frag) : AlM := (((fa.all fun f => f.ok K) && ((ex.all fun c => c K) && ((fn.all fun d => d.ok K) && tableB g K)), fn.map fun d => He5.fnA K (d.at_ K)), (supObs K (He.ma K (He.ga K "BadEntry") "__init__"), He.dicW K (He.ga K "PARTS")))
def obsM (g : Addr → Option Obj) : AlM := laidOut (partK g) (obsK fa ex fn g)
def valM (w : World) : AlM := ((true, fn.map He5.DefA.val), (beP, some (He.keysIn w.params partKeys)))
/-- what the head tells -/
structure SaysM (w : World) (h : Heap) (K : PySem.W.Frag) : Prop where
  fact : ∀ f ∈ fa, f.ok K = true
  more : ∀ c ∈ ex, c K = true
  defs : ∀ d ∈ fn, ∃ fd, FunD K d.name d.qual d.params d.body d.scope (d.dvs K) (d.kws K) (d.at_ K) fd
  sup : supObs K (He.ma K (He.ga K "BadEntry") "__init__") = beP
  dic : He.dicW K (He.ga K "PARTS") = some (He.keysIn w.params partKeys)
  hd : PySem.W.codeHdIn K (He.cT K movedAt).1 (He.cT K movedAt).2 = true
  out : K.lookup (He.cT K movedAt).2 = none
  empty : h.get? (He.cT K movedAt).2 = some { cls := .none, data := .fields #[] }
end
section
variable {fa : List He.Fa} {ex : List (PySem.W.Frag → Bool)} {fn : List He5.DefA} {w : World} {h : Heap} {K : PySem.W.Frag}
theorem saysM_of (e : obsM fa ex fn h.get? = valM fn w) : SaysM fa ex fn w h (partK h.get?) := by
  unfold obsM at e
  rw [laidOut_eq] at e
  have e1 : ((fa.all fun f => f.ok (partK h.get?)) && ((ex.all fun c => c (partK h.get?)) && ((fn.all fun d => d.ok (partK h.get?)) && tableB h.get? (partK h.get?)))) = true := congrArg (fun z : AlM => z.1.1) e
  have e2 : (fn.map fun d => He5.fnA (partK h.get?) (d.at_ (partK h.get?))) = fn.map He5.DefA.val := congrArg (fun z : AlM => z.1.2) e
  obtain ⟨a1, e1⟩ := Bool.and_eq_true_iff.mp e1
  obtain ⟨a2, e1⟩ := Bool.and_eq_true_iff.mp e1
  obtain ⟨a3, a4⟩ := Bool.and_eq_true_iff.mp e1
  obtain ⟨b1, b2⟩ := Bool.and_eq_true_iff.mp a4
  have tb : ∃ o, h.get? (He.cT (partK h.get?) movedAt).2 = some o ∧ He.emptyTab o = true := by
    cases q : h.get? (He.cT (partK h.get?) movedAt).2 with
    | none => rw [q] at b2; cases b2
    | some o => rw [q] at b2; exact ⟨o, rfl, b2⟩
  obtain ⟨o, ho, hz⟩ := tb
  refine ⟨fun f hf => List.all_eq_true.mp a1 f hf, fun c hc => List.all_eq_true.mp a2 c hc, fun d hd => ?_, congrArg (fun z : AlM => z.2.1) e, congrArg (fun z : AlM => z.2.2) e, b1, He.frT_none ho hz, by rw [ho, He.emptyTab_eq hz]⟩
  obtain ⟨i, hi⟩ := List.mem_iff_getElem?.mp hd
  have e3 : (fn.map fun d => He5.fnA (partK h.get?) (d.at_ (partK h.get?)))[i]? = (fn.map He5.DefA.val)[i]? := by rw [e2]
  rw [List.getElem?_map, List.getElem?_map, hi] at e3
  exact He5.DefA.funD (Option.some.inj e3) (List.all_eq_true.mp a3 d hd)
def hookM (fa : List He.Fa) (ex : List (PySem.W.Frag → Bool)) (fn : List He5.DefA) : PySem.W.Hook where
  α := AlM
  obs := fun s => obsM fa ex fn s.heap.get?
  val := fun w => valM fn w
  says := fun w h => ∃ K : PySem.W.Frag, K.In h ∧ SaysM fa ex fn w h K
  of := fun _ _ e => ⟨_, He.frT_in, saysM_of e⟩
  keeps := fun _ _ _ ⟨K, hK, c⟩ k => ⟨K, PySem.W.Frag.In.keeps hK k, ⟨c.fact, c.more, c.defs, c.sup, c.dic, c.hd, c.out, k _ _ c.empty⟩⟩
theorem obsM_eq {g : Addr → Option Obj} {s : Shared} (h : ∀ a, g a = s.heap.get? a) : obsM fa ex fn g = (hookM fa ex fn).obs s := by
  have e : g = s.heap.get? := funext h
  rw [e]
  rfl
theorem SaysM.fa_at (c : SaysM fa ex fn w h K) (i : Nat) {f : He.Fa} (e : fa[i]? = some f) : f.ok K = true := c.fact f (List.mem_of_getElem? e)
theorem SaysM.ex_at (c : SaysM fa ex fn w h K) (i : Nat) {f : PySem.W.Frag → Bool} (e : ex[i]? = some f) : f K = true := c.more f (List.mem_of_getElem? e)
theorem SaysM.fn_at (c : SaysM fa ex fn w h K) (i : Nat) {d : He5.DefA} (e : fn[i]? = some d) : ∃ fd, FunD K d.name d.qual d.params d.body d.scope (d.dvs K) (d.kws K) (d.at_ K) fd := c.defs d (List.mem_of_getElem? e)
end
end Mw
/-! W36: what the head is asked; the facts of the top by what it tells (printed by genhd.py) -/
namespace Mw
open PySem PySem.Spec PyProof.Rows L2
def hFa0 : List He.Fa := [.free "isinstance",
  .free "int",
  .free "bool",
  .free "str",
  .free "all",
  .free "len",
  .free "tuple",
  .free "list",
  .free "dict",
  .free "enumerate",
  .free "sorted",
  .free "min",
  .free "range",
  .free "abs",
  .free "divmod",
  .free "zip",
  .free "repr",
  .free "super",
  .str "LETTERS" "abcdefghijklmnopqrstuvwxyz",
  .int "LONGEST" 5,
  .int "DEAREST" 9,
  .int "MOST_WORDS" 4,
  .int "DEAREST_OWN" 999,
  .int "LONGEST_TEXT" 400,
  .glo "Slips",
  .glo "Speller",
  .glo "Moment",
  .glo "Session",
  .glo "SpellError",
  .glo "BadSlips"]
def hFa1 : List He.Fa := [.glo "BadText",
  .glo "BadEntry",
  .glo "NoWord",
  .glo "BadNumber",
  .glo "BadDeed",
  .cls "Slips",
  .mkr "Slips",
  .noat "Slips" "z_extra",
  .noat "Slips" "z_missing",
  .noat "Slips" "z_wrong",
  .noat "Slips" "z_swapped",
  .cls "Speller",
  .mkr "Speller",
  .noat "Speller" "e_entries",
  .noat "Speller" "e_slips",
  .cls "Moment",
  .mkr "Moment",
  .noat "Moment" "q_speller",
  .noat "Moment" "q_text",
  .noat "Moment" "q_deed",
  .noat "Moment" "q_before",
  .cls "Session",
  .mkr "Session",
  .noat "Session" "v_origin",
  .noat "Session" "v_now",
  .noat "Session" "v_mark",
  .glo "is_integer",
  .glo "is_text",
  .glo "is_word",
  .glo "is_price"]
def hFa2 : List He.Fa := [.glo "need_text",
  .meth "Slips" "__eq__",
  .glo "last_steps",
  .glo "step_price",
  .glo "price_lines",
  .glo "price",
  .glo "is_own",
  .glo "is_entry",
  .glo "need_entries",
  .meth "Speller" "__eq__",
  .meth "Speller" "__contains__",
  .meth "Speller" "__getitem__",
  .meth "Speller" "__sub__",
  .meth "Speller" "with_own",
  .meth "Speller" "ranking",
  .glo "place_of",
  .glo "ranking_of",
  .glo "meant_word",
  .glo "is_deed",
  .glo "pressed",
  .glo "shortened",
  .glo "taught",
  .glo "later_moment",
  .meth "Session" "__eq__",
  .meth "Session" "do",
  .meth "Session" "do_all",
  .meth "Session" "deeds",
  .meth "Session" "twin",
  .glo "deeds_to",
  .glo "_law_begin"]
def hFa3 : List He.Fa := [.glo "_law_take",
  .glo "_law_pick",
  .glo "_law_letters",
  .glo "_law_string",
  .glo "_law_prices",
  .glo "_law_case",
  .glo "_law_slips",
  .glo "_law_speller",
  .glo "_law_other_letter",
  .glo "_law_text",
  .glo "_law_price",
  .glo "_law_totals",
  .glo "_law_meant",
  .glo "_law_is_int",
  .glo "_law_is_text",
  .glo "_law_sheet",
  .glo "_law_act",
  .glo "_law_changed_entries",
  .glo "_law_done",
  .glo "_law_stands",
  .glo "_law_caught",
  .glo "_law_moved",
  .glo "_law_is_as_new",
  .glo "_law_equal_right",
  .glo "law",
  .glo "PARTS"]
def hFa : List He.Fa := hFa0 ++ (hFa1 ++ (hFa2 ++ (hFa3)))
def hEx0 : List (PySem.W.Frag → Bool) := [fun K => insB K (He.ga K "Slips"),
  fun K => insB K (He.ga K "Speller"),
  fun K => insB K (He.ga K "Moment"),
  fun K => insB K (He.ga K "Session"),
  fun K => propB K (He.ga K "Slips") "extra",
  fun K => propB K (He.ga K "Slips") "missing",
  fun K => propB K (He.ga K "Slips") "wrong",
  fun K => propB K (He.ga K "Slips") "swapped",
  fun K => propB K (He.ga K "Speller") "entries",
  fun K => propB K (He.ga K "Speller") "slips",
  fun K => propB K (He.ga K "Session") "speller",
  fun K => propB K (He.ga K "Session") "origin",
  fun K => propB K (He.ga K "Session") "text",
  fun K => propB K (He.ga K "Session") "shown",
  fun K => He.valsB K (He.ga K "PARTS") partVals,
  fun K => PySem.W.selfFirst K (He.ga K "Speller"),
  fun K => decide (PySem.W.findIn K (.ref (He.ga K "Speller")) "__rsub__" = some none),
  fun K => decide (PySem.W.findIn K (.type "str") "__sub__" = some none),
  fun K => decide (PySem.W.findIn K (.type "str") "__rsub__" = some none),
  fun K => decide (PySem.W.subIn K (.type "str") (.ref (He.ga K "Speller")) = some false),
  fun K => decide (PySem.W.findIn K (.ref (He.ga K "Speller")) "__ne__" = some (some (.builtin "object.__ne__"))),
  fun K => decide (PySem.W.subIn K (.ref (He.ga K "Speller")) (.type "object") = some true),
  fun K => decide (PySem.W.findIn K (.ref (He.ga K "Session")) "__ne__" = some (some (.builtin "object.__ne__"))),
  fun K => decide (PySem.W.subIn K (.ref (He.ga K "Session")) (.type "object") = some true),
  fun K => PySem.W.notFirst K (He.ga K "Session") (.ref (He.ga K "Speller")),
  fun K => PySem.W.notFirst K (He.ga K "Session") (.type "NoneType"),
  fun K => decide (PySem.W.kitOne K (.ref (He.ga K "Speller")) (.ref (He.ga K "Session")) = some false),
  fun K => decide (PySem.W.kitOne K (.type "NoneType") (.ref (He.ga K "Session")) = some false),
  fun K => xfB K (He.ga K "BadEntry"),
  fun K => decide (PySem.W.findIn K (.ref (He.ga K "BadEntry")) "at" = some none)]
def hEx1 : List (PySem.W.Frag → Bool) := [fun K => decide (PySem.W.exmOne K (.ref (He.ga K "BadEntry")) (.ref (He.ga K "BadDeed")) = some false),
  fun K => decide (PySem.W.exmOne K (.ref (He.ga K "BadEntry")) (.ref (He.ga K "BadEntry")) = some true),
  fun K => supB K (He.ga K "BadEntry") (He.ma K (He.ga K "BadEntry") "__init__") "BadEntry.__init__",
  fun K => decide (PySem.W.mroIn K (He.ga K "BadEntry") (.ref (He.ga K "BadEntry")) = some true),
  fun K => decide (PySem.W.nsIn K cStatics "thirdparty.any" = some none),
  fun K => decide (PySem.W.ks_superIn K (He.ga K "BadEntry") (He.ga K "BadEntry") "__init__" = some (some (.builtin "ValueError.__init__"))),
  fun K => decide (PySem.W.subIn K (.ref (He.ga K "BadEntry")) (.type "ValueError") = some true),
  fun K => decide (PySem.W.findIn K (.ref (He.ga K "BadEntry")) "__init__" = some (some (.ref (He.ma K (He.ga K "BadEntry") "__init__")))),
  fun K => decide (PySem.W.typeIn K (.ref (He.ma K (He.ga K "BadEntry") "__init__")) = some (.type "function")),
  fun K => oexB K (He.ga K "BadEntry")]
def hEx : List (PySem.W.Frag → Bool) := hEx0 ++ (hEx1)
def hFn0 : List He5.DefA := [⟨fun K => He.ga K "is_integer", "is_integer", "is_integer", defArgs (top 14), defBody (top 14), defScope (top 14), [], []⟩,
  ⟨fun K => He.ga K "is_text", "is_text", "is_text", defArgs (top 15), defBody (top 15), defScope (top 15), [], []⟩,
  ⟨fun K => He.ga K "is_word", "is_word", "is_word", defArgs (top 16), defBody (top 16), defScope (top 16), [], []⟩,
  ⟨fun K => He.ga K "is_price", "is_price", "is_price", defArgs (top 17), defBody (top 17), defScope (top 17), [], []⟩,
  ⟨fun K => He.ga K "need_text", "need_text", "need_text", defArgs (top 18), defBody (top 18), defScope (top 18), [], []⟩,
  ⟨fun K => He.ma K (He.ga K "Slips") "__init__", "__init__", "Slips.__init__", defArgs (inClass (top 19) 0), defBody (inClass (top 19) 0), defScope (inClass (top 19) 0), [], [("extra", .int 1), ("missing", .int 1), ("wrong", .int 1), ("swapped", .non)]⟩,
  ⟨fun K => pga K (He.ga K "Slips") "extra", "extra", "Slips.extra", defArgs (inClass (top 19) 1), defBody (inClass (top 19) 1), defScope (inClass (top 19) 1), [], []⟩,
  ⟨fun K => pga K (He.ga K "Slips") "missing", "missing", "Slips.missing", defArgs (inClass (top 19) 2), defBody (inClass (top 19) 2), defScope (inClass (top 19) 2), [], []⟩,
  ⟨fun K => pga K (He.ga K "Slips") "wrong", "wrong", "Slips.wrong", defArgs (inClass (top 19) 3), defBody (inClass (top 19) 3), defScope (inClass (top 19) 3), [], []⟩,
  ⟨fun K => pga K (He.ga K "Slips") "swapped", "swapped", "Slips.swapped", defArgs (inClass (top 19) 4), defBody (inClass (top 19) 4), defScope (inClass (top 19) 4), [], []⟩,
  ⟨fun K => He.ma K (He.ga K "Slips") "__eq__", "__eq__", "Slips.__eq__", defArgs (inClass (top 19) 5), defBody (inClass (top 19) 5), defScope (inClass (top 19) 5), [], []⟩,
  ⟨fun K => He.ga K "last_steps", "last_steps", "last_steps", defArgs (top 20), defBody (top 20), defScope (top 20), [], []⟩,
  ⟨fun K => He.ga K "step_price", "step_price", "step_price", defArgs (top 21), defBody (top 21), defScope (top 21), [], []⟩,
  ⟨fun K => He.ga K "price_lines", "price_lines", "price_lines", defArgs (top 22), defBody (top 22), defScope (top 22), [], []⟩,
  ⟨fun K => He.ga K "price", "price", "price", defArgs (top 23), defBody (top 23), defScope (top 23), [], []⟩,
  ⟨fun K => He.ga K "is_own", "is_own", "is_own", defArgs (top 27), defBody (top 27), defScope (top 27), [], []⟩,
  ⟨fun K => He.ga K "is_entry", "is_entry", "is_entry", defArgs (top 28), defBody (top 28), defScope (top 28), [], []⟩,
  ⟨fun K => He.ga K "need_entries", "need_entries", "need_entries", defArgs (top 29), defBody (top 29), defScope (top 29), [], []⟩,
  ⟨fun K => He.ma K (He.ga K "Speller") "__init__", "__init__", "Speller.__init__", defArgs (inClass (top 30) 0), defBody (inClass (top 30) 0), defScope (inClass (top 30) 0), [.non], []⟩,
  ⟨fun K => pga K (He.ga K "Speller") "entries", "entries", "Speller.entries", defArgs (inClass (top 30) 1), defBody (inClass (top 30) 1), defScope (inClass (top 30) 1), [], []⟩,
  ⟨fun K => pga K (He.ga K "Speller") "slips", "slips", "Speller.slips", defArgs (inClass (top 30) 2), defBody (inClass (top 30) 2), defScope (inClass (top 30) 2), [], []⟩,
  ⟨fun K => He.ma K (He.ga K "Speller") "__eq__", "__eq__", "Speller.__eq__", defArgs (inClass (top 30) 3), defBody (inClass (top 30) 3), defScope (inClass (top 30) 3), [], []⟩,
  ⟨fun K => He.ma K (He.ga K "Speller") "__contains__", "__contains__", "Speller.__contains__", defArgs (inClass (top 30) 6), defBody (inClass (top 30) 6), defScope (inClass (top 30) 6), [], []⟩,
  ⟨fun K => He.ma K (He.ga K "Speller") "__getitem__", "__getitem__", "Speller.__getitem__", defArgs (inClass (top 30) 7), defBody (inClass (top 30) 7), defScope (inClass (top 30) 7), [], []⟩,
  ⟨fun K => He.ma K (He.ga K "Speller") "__sub__", "__sub__", "Speller.__sub__", defArgs (inClass (top 30) 9), defBody (inClass (top 30) 9), defScope (inClass (top 30) 9), [], []⟩,
  ⟨fun K => He.ma K (He.ga K "Speller") "with_own", "with_own", "Speller.with_own", defArgs (inClass (top 30) 10), defBody (inClass (top 30) 10), defScope (inClass (top 30) 10), [], []⟩,
  ⟨fun K => He.ma K (He.ga K "Speller") "ranking", "ranking", "Speller.ranking", defArgs (inClass (top 30) 12), defBody (inClass (top 30) 12), defScope (inClass (top 30) 12), [], []⟩,
  ⟨fun K => He.ga K "place_of", "place_of", "place_of", defArgs (top 31), defBody (top 31), defScope (top 31), [], []⟩,
  ⟨fun K => He.ga K "ranking_of", "ranking_of", "ranking_of", defArgs (top 32), defBody (top 32), defScope (top 32), [], []⟩,
  ⟨fun K => He.ga K "meant_word", "meant_word", "meant_word", defArgs (top 33), defBody (top 33), defScope (top 33), [], []⟩]
def hFn1 : List He5.DefA := [⟨fun K => He.ma K (He.ga K "Moment") "__init__", "__init__", "Moment.__init__", defArgs (inClass (top 37) 0), defBody (inClass (top 37) 0), defScope (inClass (top 37) 0), [], []⟩,
  ⟨fun K => He.ga K "is_deed", "is_deed", "is_deed", defArgs (top 39), defBody (top 39), defScope (top 39), [], []⟩,
  ⟨fun K => He.ga K "pressed", "pressed", "pressed", defArgs (top 40), defBody (top 40), defScope (top 40), [], []⟩,
  ⟨fun K => He.ga K "shortened", "shortened", "shortened", defArgs (top 41), defBody (top 41), defScope (top 41), [], []⟩,
  ⟨fun K => He.ga K "taught", "taught", "taught", defArgs (top 42), defBody (top 42), defScope (top 42), [], []⟩,
  ⟨fun K => He.ga K "later_moment", "later_moment", "later_moment", defArgs (top 43), defBody (top 43), defScope (top 43), [], []⟩,
  ⟨fun K => He.ma K (He.ga K "Session") "__init__", "__init__", "Session.__init__", defArgs (inClass (top 44) 0), defBody (inClass (top 44) 0), defScope (inClass (top 44) 0), [], []⟩,
  ⟨fun K => pga K (He.ga K "Session") "speller", "speller", "Session.speller", defArgs (inClass (top 44) 1), defBody (inClass (top 44) 1), defScope (inClass (top 44) 1), [], []⟩,
  ⟨fun K => pga K (He.ga K "Session") "origin", "origin", "Session.origin", defArgs (inClass (top 44) 2), defBody (inClass (top 44) 2), defScope (inClass (top 44) 2), [], []⟩,
  ⟨fun K => pga K (He.ga K "Session") "text", "text", "Session.text", defArgs (inClass (top 44) 3), defBody (inClass (top 44) 3), defScope (inClass (top 44) 3), [], []⟩,
  ⟨fun K => pga K (He.ga K "Session") "shown", "shown", "Session.shown", defArgs (inClass (top 44) 4), defBody (inClass (top 44) 4), defScope (inClass (top 44) 4), [], []⟩,
  ⟨fun K => He.ma K (He.ga K "Session") "__eq__", "__eq__", "Session.__eq__", defArgs (inClass (top 44) 5), defBody (inClass (top 44) 5), defScope (inClass (top 44) 5), [], []⟩,
  ⟨fun K => He.ma K (He.ga K "Session") "do", "do", "Session.do", defArgs (inClass (top 44) 13), defBody (inClass (top 44) 13), defScope (inClass (top 44) 13), [], []⟩,
  ⟨fun K => He.ma K (He.ga K "Session") "do_all", "do_all", "Session.do_all", defArgs (inClass (top 44) 14), defBody (inClass (top 44) 14), defScope (inClass (top 44) 14), [], []⟩,
  ⟨fun K => He.ma K (He.ga K "Session") "deeds", "deeds", "Session.deeds", defArgs (inClass (top 44) 15), defBody (inClass (top 44) 15), defScope (inClass (top 44) 15), [], []⟩,
  ⟨fun K => He.ma K (He.ga K "Session") "twin", "twin", "Session.twin", defArgs (inClass (top 44) 16), defBody (inClass (top 44) 16), defScope (inClass (top 44) 16), [], []⟩,
  ⟨fun K => He.ga K "deeds_to", "deeds_to", "deeds_to", defArgs (top 45), defBody (top 45), defScope (top 45), [], []⟩,
  ⟨fun K => He.ga K "_law_begin", "_law_begin", "_law_begin", defArgs (top 47), defBody (top 47), defScope (top 47), [], []⟩,
  ⟨fun K => He.ga K "_law_take", "_law_take", "_law_take", defArgs (top 48), defBody (top 48), defScope (top 48), [], []⟩,
  ⟨fun K => He.ga K "_law_pick", "_law_pick", "_law_pick", defArgs (top 49), defBody (top 49), defScope (top 49), [], []⟩,
  ⟨fun K => He.ga K "_law_letters", "_law_letters", "_law_letters", defArgs (top 50), defBody (top 50), defScope (top 50), [], []⟩,
  ⟨fun K => He.ga K "_law_string", "_law_string", "_law_string", defArgs (top 51), defBody (top 51), defScope (top 51), [], []⟩,
  ⟨fun K => He.ga K "_law_prices", "_law_prices", "_law_prices", defArgs (top 52), defBody (top 52), defScope (top 52), [], []⟩,
  ⟨fun K => He.ga K "_law_case", "_law_case", "_law_case", defArgs (top 53), defBody (top 53), defScope (top 53), [], []⟩,
  ⟨fun K => He.ga K "_law_slips", "_law_slips", "_law_slips", defArgs (top 54), defBody (top 54), defScope (top 54), [], []⟩,
  ⟨fun K => He.ga K "_law_speller", "_law_speller", "_law_speller", defArgs (top 55), defBody (top 55), defScope (top 55), [], []⟩,
  ⟨fun K => He.ga K "_law_other_letter", "_law_other_letter", "_law_other_letter", defArgs (top 56), defBody (top 56), defScope (top 56), [], []⟩,
  ⟨fun K => He.ga K "_law_text", "_law_text", "_law_text", defArgs (top 57), defBody (top 57), defScope (top 57), [], []⟩,
  ⟨fun K => He.ga K "_law_price", "_law_price", "_law_price", defArgs (top 58), defBody (top 58), defScope (top 58), [], []⟩,
  ⟨fun K => He.ga K "_law_totals", "_law_totals", "_law_totals", defArgs (top 59), defBody (top 59), defScope (top 59), [], []⟩]
def hFn2 : List He5.DefA := [⟨fun K => He.ga K "_law_meant", "_law_meant", "_law_meant", defArgs (top 60), defBody (top 60), defScope (top 60), [], []⟩,
  ⟨fun K => He.ga K "_law_is_int", "_law_is_int", "_law_is_int", defArgs (top 61), defBody (top 61), defScope (top 61), [], []⟩,
  ⟨fun K => He.ga K "_law_is_text", "_law_is_text", "_law_is_text", defArgs (top 62), defBody (top 62), defScope (top 62), [], []⟩,
  ⟨fun K => He.ga K "_law_sheet", "_law_sheet", "_law_sheet", defArgs (top 63), defBody (top 63), defScope (top 63), [], []⟩,
  ⟨fun K => He.ga K "_law_act", "_law_act", "_law_act", defArgs (top 64), defBody (top 64), defScope (top 64), [], []⟩,
  ⟨fun K => He.ga K "_law_changed_entries", "_law_changed_entries", "_law_changed_entries", defArgs (top 65), defBody (top 65), defScope (top 65), [], []⟩,
  ⟨fun K => He.ga K "_law_done", "_law_done", "_law_done", defArgs (top 66), defBody (top 66), defScope (top 66), [], []⟩,
  ⟨fun K => He.ga K "_law_stands", "_law_stands", "_law_stands", defArgs (top 67), defBody (top 67), defScope (top 67), [], []⟩,
  ⟨fun K => He.ga K "_law_caught", "_law_caught", "_law_caught", defArgs (top 68), defBody (top 68), defScope (top 68), [], []⟩,
  ⟨fun K => He.ga K "_law_moved", "_law_moved", "_law_moved", defArgs (top 69), defBody (top 69), defScope (top 69), [], []⟩,
  ⟨fun K => He.ga K "_law_is_as_new", "_law_is_as_new", "_law_is_as_new", defArgs (top 70), defBody (top 70), defScope (top 70), [], []⟩,
  ⟨fun K => He.ga K "_law_equal_right", "_law_equal_right", "_law_equal_right", defArgs (top 71), defBody (top 71), defScope (top 71), [], []⟩,
  ⟨fun K => He.ga K "law", "law", "law", defArgs (top 72), defBody (top 72), defScope (top 72), [], []⟩]
def hFn : List He5.DefA := hFn0 ++ (hFn1 ++ (hFn2))
theorem tx_of {P : Program} {w : World} {h h' : Heap} {K : PySem.W.Frag} {mg : Str → Option Value} (c : SaysM hFa hEx hFn w h K) (X : K.In h') (G : h'.Ns mainGlobals mg) (hf : ((P.main.file : Str) == ("/claim/cut.py" : Str)) = true) (hs : (P.main.scope.names.lookup ("super" : Str)).isSome = false) : Tx P w K mg where
    n_isinstance := He.free_ok X G (c.fa_at 0 (f := .free "isinstance") rfl)
    n_int := He.free_ok X G (c.fa_at 1 (f := .free "int") rfl)
    n_bool := He.free_ok X G (c.fa_at 2 (f := .free "bool") rfl)
    n_str := He.free_ok X G (c.fa_at 3 (f := .free "str") rfl)
    n_all := He.free_ok X G (c.fa_at 4 (f := .free "all") rfl)
    n_len := He.free_ok X G (c.fa_at 5 (f := .free "len") rfl)
    n_tuple := He.free_ok X G (c.fa_at 6 (f := .free "tuple") rfl)
    n_list := He.free_ok X G (c.fa_at 7 (f := .free "list") rfl)
    n_dict := He.free_ok X G (c.fa_at 8 (f := .free "dict") rfl)
    n_enumerate := He.free_ok X G (c.fa_at 9 (f := .free "enumerate") rfl)
    n_sorted := He.free_ok X G (c.fa_at 10 (f := .free "sorted") rfl)
    n_min := He.free_ok X G (c.fa_at 11 (f := .free "min") rfl)
    n_range := He.free_ok X G (c.fa_at 12 (f := .free "range") rfl)
    n_abs := He.free_ok X G (c.fa_at 13 (f := .free "abs") rfl)
    n_divmod := He.free_ok X G (c.fa_at 14 (f := .free "divmod") rfl)
    n_zip := He.free_ok X G (c.fa_at 15 (f := .free "zip") rfl)
    n_repr := He.free_ok X G (c.fa_at 16 (f := .free "repr") rfl)
    n_super := He.free_ok X G (c.fa_at 17 (f := .free "super") rfl)
    k_LETTERS := let ⟨t, e⟩ := He.str_ok X G (c.fa_at 18 (f := .str "LETTERS" "abcdefghijklmnopqrstuvwxyz") rfl); ⟨_, e, ⟨t, rfl⟩⟩
    k_LONGEST := let ⟨t, e⟩ := He.int_ok X G (c.fa_at 19 (f := .int "LONGEST" 5) rfl); ⟨_, e, ⟨t, rfl⟩⟩
    k_DEAREST := let ⟨t, e⟩ := He.int_ok X G (c.fa_at 20 (f := .int "DEAREST" 9) rfl); ⟨_, e, ⟨t, rfl⟩⟩
    k_MOST_WORDS := let ⟨t, e⟩ := He.int_ok X G (c.fa_at 21 (f := .int "MOST_WORDS" 4) rfl); ⟨_, e, ⟨t, rfl⟩⟩
    k_DEAREST_OWN := let ⟨t, e⟩ := He.int_ok X G (c.fa_at 22 (f := .int "DEAREST_OWN" 999) rfl); ⟨_, e, ⟨t, rfl⟩⟩
    k_LONGEST_TEXT := let ⟨t, e⟩ := He.int_ok X G (c.fa_at 23 (f := .int "LONGEST_TEXT" 400) rfl); ⟨_, e, ⟨t, rfl⟩⟩
    g_Slips := He.glo_ok X G (c.fa_at 24 (f := .glo "Slips") rfl)
    g_Speller := He.glo_ok X G (c.fa_at 25 (f := .glo "Speller") rfl)
    g_Moment := He.glo_ok X G (c.fa_at 26 (f := .glo "Moment") rfl)
    g_Session := He.glo_ok X G (c.fa_at 27 (f := .glo "Session") rfl)
    g_SpellError := He.glo_ok X G (c.fa_at 28 (f := .glo "SpellError") rfl)
    g_BadSlips := He.glo_ok X G (c.fa_at 29 (f := .glo "BadSlips") rfl)
    g_BadText := He.glo_ok X G (c.fa_at 30 (f := .glo "BadText") rfl)
    g_BadEntry := He.glo_ok X G (c.fa_at 31 (f := .glo "BadEntry") rfl)
    g_NoWord := He.glo_ok X G (c.fa_at 32 (f := .glo "NoWord") rfl)
    g_BadNumber := He.glo_ok X G (c.fa_at 33 (f := .glo "BadNumber") rfl)
    g_BadDeed := He.glo_ok X G (c.fa_at 34 (f := .glo "BadDeed") rfl)
    cl_Slips := He.cls_ok (c.fa_at 35 (f := .cls "Slips") rfl)
    ic_Slips := insB_ok (He.cls_ok (c.fa_at 35 (f := .cls "Slips") rfl)) (c.ex_at 0 (f := fun K => insB K (He.ga K "Slips")) rfl)
    mk_Slips := He.mkr_ok (c.fa_at 36 (f := .mkr "Slips") rfl)
    na_Slips_z_extra := He.noat_ok (c.fa_at 37 (f := .noat "Slips" "z_extra") rfl)
    na_Slips_z_missing := He.noat_ok (c.fa_at 38 (f := .noat "Slips" "z_missing") rfl)
    na_Slips_z_wrong := He.noat_ok (c.fa_at 39 (f := .noat "Slips" "z_wrong") rfl)
    na_Slips_z_swapped := He.noat_ok (c.fa_at 40 (f := .noat "Slips" "z_swapped") rfl)
    cl_Speller := He.cls_ok (c.fa_at 41 (f := .cls "Speller") rfl)
    ic_Speller := insB_ok (He.cls_ok (c.fa_at 41 (f := .cls "Speller") rfl)) (c.ex_at 1 (f := fun K => insB K (He.ga K "Speller")) rfl)
    mk_Speller := He.mkr_ok (c.fa_at 42 (f := .mkr "Speller") rfl)
    na_Speller_e_entries := He.noat_ok (c.fa_at 43 (f := .noat "Speller" "e_entries") rfl)
    na_Speller_e_slips := He.noat_ok (c.fa_at 44 (f := .noat "Speller" "e_slips") rfl)
    cl_Moment := He.cls_ok (c.fa_at 45 (f := .cls "Moment") rfl)
    ic_Moment := insB_ok (He.cls_ok (c.fa_at 45 (f := .cls "Moment") rfl)) (c.ex_at 2 (f := fun K => insB K (He.ga K "Moment")) rfl)
    mk_Moment := He.mkr_ok (c.fa_at 46 (f := .mkr "Moment") rfl)
    na_Moment_q_speller := He.noat_ok (c.fa_at 47 (f := .noat "Moment" "q_speller") rfl)
    na_Moment_q_text := He.noat_ok (c.fa_at 48 (f := .noat "Moment" "q_text") rfl)
    na_Moment_q_deed := He.noat_ok (c.fa_at 49 (f := .noat "Moment" "q_deed") rfl)
    na_Moment_q_before := He.noat_ok (c.fa_at 50 (f := .noat "Moment" "q_before") rfl)
    cl_Session := He.cls_ok (c.fa_at 51 (f := .cls "Session") rfl)
    ic_Session := insB_ok (He.cls_ok (c.fa_at 51 (f := .cls "Session") rfl)) (c.ex_at 3 (f := fun K => insB K (He.ga K "Session")) rfl)
    mk_Session := He.mkr_ok (c.fa_at 52 (f := .mkr "Session") rfl)
    na_Session_v_origin := He.noat_ok (c.fa_at 53 (f := .noat "Session" "v_origin") rfl)
    na_Session_v_now := He.noat_ok (c.fa_at 54 (f := .noat "Session" "v_now") rfl)
    na_Session_v_mark := He.noat_ok (c.fa_at 55 (f := .noat "Session" "v_mark") rfl)
    gf_is_integer := He.glo_ok X G (c.fa_at 56 (f := .glo "is_integer") rfl)
    d_is_integer := (c.fn_at 0 rfl)
    gf_is_text := He.glo_ok X G (c.fa_at 57 (f := .glo "is_text") rfl)
    d_is_text := (c.fn_at 1 rfl)
    gf_is_word := He.glo_ok X G (c.fa_at 58 (f := .glo "is_word") rfl)
    d_is_word := (c.fn_at 2 rfl)
    gf_is_price := He.glo_ok X G (c.fa_at 59 (f := .glo "is_price") rfl)
    d_is_price := (c.fn_at 3 rfl)
    gf_need_text := He.glo_ok X G (c.fa_at 60 (f := .glo "need_text") rfl)
    d_need_text := (c.fn_at 4 rfl)
    d_Slips___init__ := (c.fn_at 5 rfl)
    pr_Slips_extra := propB_ok (c.ex_at 4 (f := fun K => propB K (He.ga K "Slips") "extra") rfl)
    d_Slips_extra := (c.fn_at 6 rfl)
    pr_Slips_missing := propB_ok (c.ex_at 5 (f := fun K => propB K (He.ga K "Slips") "missing") rfl)
    d_Slips_missing := (c.fn_at 7 rfl)
    pr_Slips_wrong := propB_ok (c.ex_at 6 (f := fun K => propB K (He.ga K "Slips") "wrong") rfl)
    d_Slips_wrong := (c.fn_at 8 rfl)
    pr_Slips_swapped := propB_ok (c.ex_at 7 (f := fun K => propB K (He.ga K "Slips") "swapped") rfl)
    d_Slips_swapped := (c.fn_at 9 rfl)
    me_Slips___eq__ := meth_ok (c.fa_at 61 (f := .meth "Slips" "__eq__") rfl)
    d_Slips___eq__ := (c.fn_at 10 rfl)
    gf_last_steps := He.glo_ok X G (c.fa_at 62 (f := .glo "last_steps") rfl)
    d_last_steps := (c.fn_at 11 rfl)
    gf_step_price := He.glo_ok X G (c.fa_at 63 (f := .glo "step_price") rfl)
    d_step_price := (c.fn_at 12 rfl)
    gf_price_lines := He.glo_ok X G (c.fa_at 64 (f := .glo "price_lines") rfl)
    d_price_lines := (c.fn_at 13 rfl)
    gf_price := He.glo_ok X G (c.fa_at 65 (f := .glo "price") rfl)
    d_price := (c.fn_at 14 rfl)
    gf_is_own := He.glo_ok X G (c.fa_at 66 (f := .glo "is_own") rfl)
    d_is_own := (c.fn_at 15 rfl)
    gf_is_entry := He.glo_ok X G (c.fa_at 67 (f := .glo "is_entry") rfl)
    d_is_entry := (c.fn_at 16 rfl)
    gf_need_entries := He.glo_ok X G (c.fa_at 68 (f := .glo "need_entries") rfl)
    d_need_entries := (c.fn_at 17 rfl)
    d_Speller___init__ := (c.fn_at 18 rfl)
    pr_Speller_entries := propB_ok (c.ex_at 8 (f := fun K => propB K (He.ga K "Speller") "entries") rfl)
    d_Speller_entries := (c.fn_at 19 rfl)
    pr_Speller_slips := propB_ok (c.ex_at 9 (f := fun K => propB K (He.ga K "Speller") "slips") rfl)
    d_Speller_slips := (c.fn_at 20 rfl)
    me_Speller___eq__ := meth_ok (c.fa_at 69 (f := .meth "Speller" "__eq__") rfl)
    d_Speller___eq__ := (c.fn_at 21 rfl)
    me_Speller___contains__ := meth_ok (c.fa_at 70 (f := .meth "Speller" "__contains__") rfl)
    d_Speller___contains__ := (c.fn_at 22 rfl)
    me_Speller___getitem__ := meth_ok (c.fa_at 71 (f := .meth "Speller" "__getitem__") rfl)
    d_Speller___getitem__ := (c.fn_at 23 rfl)
    me_Speller___sub__ := meth_ok (c.fa_at 72 (f := .meth "Speller" "__sub__") rfl)
    d_Speller___sub__ := (c.fn_at 24 rfl)
    me_Speller_with_own := meth_ok (c.fa_at 73 (f := .meth "Speller" "with_own") rfl)
    d_Speller_with_own := (c.fn_at 25 rfl)
    me_Speller_ranking := meth_ok (c.fa_at 74 (f := .meth "Speller" "ranking") rfl)
    d_Speller_ranking := (c.fn_at 26 rfl)
    gf_place_of := He.glo_ok X G (c.fa_at 75 (f := .glo "place_of") rfl)
    d_place_of := (c.fn_at 27 rfl)
    gf_ranking_of := He.glo_ok X G (c.fa_at 76 (f := .glo "ranking_of") rfl)
    d_ranking_of := (c.fn_at 28 rfl)
    gf_meant_word := He.glo_ok X G (c.fa_at 77 (f := .glo "meant_word") rfl)
    d_meant_word := (c.fn_at 29 rfl)
    d_Moment___init__ := (c.fn_at 30 rfl)
    gf_is_deed := He.glo_ok X G (c.fa_at 78 (f := .glo "is_deed") rfl)
    d_is_deed := (c.fn_at 31 rfl)
    gf_pressed := He.glo_ok X G (c.fa_at 79 (f := .glo "pressed") rfl)
    d_pressed := (c.fn_at 32 rfl)
    gf_shortened := He.glo_ok X G (c.fa_at 80 (f := .glo "shortened") rfl)
    d_shortened := (c.fn_at 33 rfl)
    gf_taught := He.glo_ok X G (c.fa_at 81 (f := .glo "taught") rfl)
    d_taught := (c.fn_at 34 rfl)
    gf_later_moment := He.glo_ok X G (c.fa_at 82 (f := .glo "later_moment") rfl)
    d_later_moment := (c.fn_at 35 rfl)
    d_Session___init__ := (c.fn_at 36 rfl)
    pr_Session_speller := propB_ok (c.ex_at 10 (f := fun K => propB K (He.ga K "Session") "speller") rfl)
    d_Session_speller := (c.fn_at 37 rfl)
    pr_Session_origin := propB_ok (c.ex_at 11 (f := fun K => propB K (He.ga K "Session") "origin") rfl)
    d_Session_origin := (c.fn_at 38 rfl)
    pr_Session_text := propB_ok (c.ex_at 12 (f := fun K => propB K (He.ga K "Session") "text") rfl)
    d_Session_text := (c.fn_at 39 rfl)
    pr_Session_shown := propB_ok (c.ex_at 13 (f := fun K => propB K (He.ga K "Session") "shown") rfl)
    d_Session_shown := (c.fn_at 40 rfl)
    me_Session___eq__ := meth_ok (c.fa_at 83 (f := .meth "Session" "__eq__") rfl)
    d_Session___eq__ := (c.fn_at 41 rfl)
    me_Session_do := meth_ok (c.fa_at 84 (f := .meth "Session" "do") rfl)
    d_Session_do := (c.fn_at 42 rfl)
    me_Session_do_all := meth_ok (c.fa_at 85 (f := .meth "Session" "do_all") rfl)
    d_Session_do_all := (c.fn_at 43 rfl)
    me_Session_deeds := meth_ok (c.fa_at 86 (f := .meth "Session" "deeds") rfl)
    d_Session_deeds := (c.fn_at 44 rfl)
    me_Session_twin := meth_ok (c.fa_at 87 (f := .meth "Session" "twin") rfl)
    d_Session_twin := (c.fn_at 45 rfl)
    gf_deeds_to := He.glo_ok X G (c.fa_at 88 (f := .glo "deeds_to") rfl)
    d_deeds_to := (c.fn_at 46 rfl)
    gf__law_begin := He.glo_ok X G (c.fa_at 89 (f := .glo "_law_begin") rfl)
    d__law_begin := (c.fn_at 47 rfl)
    gf__law_take := He.glo_ok X G (c.fa_at 90 (f := .glo "_law_take") rfl)
    d__law_take := (c.fn_at 48 rfl)
    gf__law_pick := He.glo_ok X G (c.fa_at 91 (f := .glo "_law_pick") rfl)
    d__law_pick := (c.fn_at 49 rfl)
    gf__law_letters := He.glo_ok X G (c.fa_at 92 (f := .glo "_law_letters") rfl)
    d__law_letters := (c.fn_at 50 rfl)
    gf__law_string := He.glo_ok X G (c.fa_at 93 (f := .glo "_law_string") rfl)
    d__law_string := (c.fn_at 51 rfl)
    gf__law_prices := He.glo_ok X G (c.fa_at 94 (f := .glo "_law_prices") rfl)
    d__law_prices := (c.fn_at 52 rfl)
    gf__law_case := He.glo_ok X G (c.fa_at 95 (f := .glo "_law_case") rfl)
    d__law_case := (c.fn_at 53 rfl)
    gf__law_slips := He.glo_ok X G (c.fa_at 96 (f := .glo "_law_slips") rfl)
    d__law_slips := (c.fn_at 54 rfl)
    gf__law_speller := He.glo_ok X G (c.fa_at 97 (f := .glo "_law_speller") rfl)
    d__law_speller := (c.fn_at 55 rfl)
    gf__law_other_letter := He.glo_ok X G (c.fa_at 98 (f := .glo "_law_other_letter") rfl)
    d__law_other_letter := (c.fn_at 56 rfl)
    gf__law_text := He.glo_ok X G (c.fa_at 99 (f := .glo "_law_text") rfl)
    d__law_text := (c.fn_at 57 rfl)
    gf__law_price := He.glo_ok X G (c.fa_at 100 (f := .glo "_law_price") rfl)
    d__law_price := (c.fn_at 58 rfl)
    gf__law_totals := He.glo_ok X G (c.fa_at 101 (f := .glo "_law_totals") rfl)
    d__law_totals := (c.fn_at 59 rfl)
    gf__law_meant := He.glo_ok X G (c.fa_at 102 (f := .glo "_law_meant") rfl)
    d__law_meant := (c.fn_at 60 rfl)
    gf__law_is_int := He.glo_ok X G (c.fa_at 103 (f := .glo "_law_is_int") rfl)
    d__law_is_int := (c.fn_at 61 rfl)
    gf__law_is_text := He.glo_ok X G (c.fa_at 104 (f := .glo "_law_is_text") rfl)
    d__law_is_text := (c.fn_at 62 rfl)
    gf__law_sheet := He.glo_ok X G (c.fa_at 105 (f := .glo "_law_sheet") rfl)
    d__law_sheet := (c.fn_at 63 rfl)
    gf__law_act := He.glo_ok X G (c.fa_at 106 (f := .glo "_law_act") rfl)
    d__law_act := (c.fn_at 64 rfl)
    gf__law_changed_entries := He.glo_ok X G (c.fa_at 107 (f := .glo "_law_changed_entries") rfl)
    d__law_changed_entries := (c.fn_at 65 rfl)
    gf__law_done := He.glo_ok X G (c.fa_at 108 (f := .glo "_law_done") rfl)
    d__law_done := (c.fn_at 66 rfl)
    gf__law_stands := He.glo_ok X G (c.fa_at 109 (f := .glo "_law_stands") rfl)
    d__law_stands := (c.fn_at 67 rfl)
    gf__law_caught := He.glo_ok X G (c.fa_at 110 (f := .glo "_law_caught") rfl)
    d__law_caught := (c.fn_at 68 rfl)
    gf__law_moved := He.glo_ok X G (c.fa_at 111 (f := .glo "_law_moved") rfl)
    d__law_moved := (c.fn_at 69 rfl)
    gf__law_is_as_new := He.glo_ok X G (c.fa_at 112 (f := .glo "_law_is_as_new") rfl)
    d__law_is_as_new := (c.fn_at 70 rfl)
    gf__law_equal_right := He.glo_ok X G (c.fa_at 113 (f := .glo "_law_equal_right") rfl)
    d__law_equal_right := (c.fn_at 71 rfl)
    gf_law := He.glo_ok X G (c.fa_at 114 (f := .glo "law") rfl)
    d_law := (c.fn_at 72 rfl)
    k_PARTS := parts_of (He.glo_ok X G (c.fa_at 115 (f := .glo "PARTS") rfl)) (c.ex_at 14 (f := fun K => He.valsB K (He.ga K "PARTS") partVals) rfl) c.dic
    sf_Speller := (c.ex_at 15 (f := fun K => PySem.W.selfFirst K (He.ga K "Speller")) rfl)
    rs_Speller := of_decide_eq_true (c.ex_at 16 (f := fun K => decide (PySem.W.findIn K (.ref (He.ga K "Speller")) "__rsub__" = some none)) rfl)
    ss_str := of_decide_eq_true (c.ex_at 17 (f := fun K => decide (PySem.W.findIn K (.type "str") "__sub__" = some none)) rfl)
    sr_str := of_decide_eq_true (c.ex_at 18 (f := fun K => decide (PySem.W.findIn K (.type "str") "__rsub__" = some none)) rfl)
    sx_Speller := of_decide_eq_true (c.ex_at 19 (f := fun K => decide (PySem.W.subIn K (.type "str") (.ref (He.ga K "Speller")) = some false)) rfl)
    ne_Speller := of_decide_eq_true (c.ex_at 20 (f := fun K => decide (PySem.W.findIn K (.ref (He.ga K "Speller")) "__ne__" = some (some (.builtin "object.__ne__")))) rfl)
    ob_Speller := of_decide_eq_true (c.ex_at 21 (f := fun K => decide (PySem.W.subIn K (.ref (He.ga K "Speller")) (.type "object") = some true)) rfl)
    ne_Session := of_decide_eq_true (c.ex_at 22 (f := fun K => decide (PySem.W.findIn K (.ref (He.ga K "Session")) "__ne__" = some (some (.builtin "object.__ne__")))) rfl)
    ob_Session := of_decide_eq_true (c.ex_at 23 (f := fun K => decide (PySem.W.subIn K (.ref (He.ga K "Session")) (.type "object") = some true)) rfl)
    nf_Speller := (c.ex_at 24 (f := fun K => PySem.W.notFirst K (He.ga K "Session") (.ref (He.ga K "Speller"))) rfl)
    nf_None := (c.ex_at 25 (f := fun K => PySem.W.notFirst K (He.ga K "Session") (.type "NoneType")) rfl)
    ko_Speller := of_decide_eq_true (c.ex_at 26 (f := fun K => decide (PySem.W.kitOne K (.ref (He.ga K "Speller")) (.ref (He.ga K "Session")) = some false)) rfl)
    ko_None := of_decide_eq_true (c.ex_at 27 (f := fun K => decide (PySem.W.kitOne K (.type "NoneType") (.ref (He.ga K "Session")) = some false)) rfl)
    xf_BadEntry := xfB_ok (c.ex_at 28 (f := fun K => xfB K (He.ga K "BadEntry")) rfl)
    xa_BadEntry := of_decide_eq_true (c.ex_at 29 (f := fun K => decide (PySem.W.findIn K (.ref (He.ga K "BadEntry")) "at" = some none)) rfl)
    em_BadDeed := of_decide_eq_true (c.ex_at 30 (f := fun K => decide (PySem.W.exmOne K (.ref (He.ga K "BadEntry")) (.ref (He.ga K "BadDeed")) = some false)) rfl)
    em_BadEntry := of_decide_eq_true (c.ex_at 31 (f := fun K => decide (PySem.W.exmOne K (.ref (He.ga K "BadEntry")) (.ref (He.ga K "BadEntry")) = some true)) rfl)
    p_file := hf
    p_super := hs
    i_BadEntry := ⟨supB_ok (c.ex_at 32 (f := fun K => supB K (He.ga K "BadEntry") (He.ma K (He.ga K "BadEntry") "__init__") "BadEntry.__init__") rfl) c.sup, of_decide_eq_true (c.ex_at 33 (f := fun K => decide (PySem.W.mroIn K (He.ga K "BadEntry") (.ref (He.ga K "BadEntry")) = some true)) rfl), of_decide_eq_true (c.ex_at 34 (f := fun K => decide (PySem.W.nsIn K cStatics "thirdparty.any" = some none)) rfl), of_decide_eq_true (c.ex_at 35 (f := fun K => decide (PySem.W.ks_superIn K (He.ga K "BadEntry") (He.ga K "BadEntry") "__init__" = some (some (.builtin "ValueError.__init__")))) rfl), of_decide_eq_true (c.ex_at 36 (f := fun K => decide (PySem.W.subIn K (.ref (He.ga K "BadEntry")) (.type "ValueError") = some true)) rfl), of_decide_eq_true (c.ex_at 37 (f := fun K => decide (PySem.W.findIn K (.ref (He.ga K "BadEntry")) "__init__" = some (some (.ref (He.ma K (He.ga K "BadEntry") "__init__"))))) rfl), of_decide_eq_true (c.ex_at 38 (f := fun K => decide (PySem.W.typeIn K (.ref (He.ma K (He.ga K "BadEntry") "__init__")) = some (.type "function"))) rfl)⟩
    ox_BadEntry := oexB_ok (c.ex_at 39 (f := fun K => oexB K (He.ga K "BadEntry")) rfl)
end Mw
set_option maxHeartbeats 0
/-! W37: the top's run -/
namespace Mw
open PySem PySem.W PySem.Calls PyProof.Rows
abbrev RR : OpenRow := OpenLaw.row PySem.Challenge.rw_meantword_k80_whole_sessions_and_new_spe
abbrev qv : Program := view RR.prog [72]
def names0 : List PySem.Str := ["_wall", "__name__", "SpellError", "BadSlips", "BadText", "BadEntry", "NoWord", "Clash", "BadNumber", "BadDeed", "LETTERS", "LONGEST", "DEAREST", "is_integer", "is_text", "is_word", "is_price", "need_text", "Slips", "last_steps", "step_price", "price_lines", "price", "MOST_WORDS", "DEAREST_OWN", "is_own", "is_entry", "need_entries", "Speller", "place_of"]
def names1 : List PySem.Str := ["ranking_of", "meant_word", "LONGEST_TEXT", "PARTS", "Moment", "Mark", "is_deed", "pressed", "shortened", "taught", "later_moment", "Session", "deeds_to", "_law_begin", "_law_take", "_law_pick", "_law_letters", "_law_string", "_law_prices", "_law_case", "_law_slips", "_law_speller", "_law_other_letter", "_law_text", "_law_price", "_law_totals", "_law_meant", "_law_is_int", "_law_is_text", "_law_sheet"]
def names2 : List PySem.Str := ["_law_act", "_law_changed_entries", "_law_done", "_law_stands", "_law_caught", "_law_moved", "_law_is_as_new", "_law_equal_right"]
def names : List PySem.Str := names0 ++ (names1 ++ (names2))
def ob (s : SharedT) : AlM := obsM hFa hEx hFn (HandSHeadRun.getT s)
theorem ob_eq (s : SharedT) : ob s = (hookM hFa hEx hFn).obs s.abs := obsM_eq (HandSHeadRun.getT_eq s)
theorem run_f (w : World) : HandSHeadRun.RunEq RR qv (hookM hFa hEx hFn) ob 8000 names (w.withFollow "special-get-raises" false) := by
  intro os
  kernel_rfl
theorem run_t (w : World) : HandSHeadRun.RunEq RR qv (hookM hFa hEx hFn) ob 8000 names (w.withFollow "special-get-raises" true) := by
  intro os
  kernel_rfl
theorem run (w : World) : HandSHeadRun.RunEq RR qv (hookM hFa hEx hFn) ob 8000 names w := byRow2 "special-get-raises" run_f run_t w
end Mw
/-! W38: the statement -/
namespace Mw
open PySem PySem.Spec PyProof.Rows L2
theorem room_law : Room 22 callerA := ⟨rfl, by decide, by decide⟩
theorem law_at {l : PySem.W.OpenLaw} {w : World} {h : Heap} {K : PySem.W.Frag} {mg : Str → Option Value} {fa : Addr} (hf : ((l.prog.main.file : Str) == ("/claim/cut.py" : Str)) = true) (hs : (l.prog.main.scope.names.lookup ("super" : Str)).isSome = false)
    (c : SaysM hFa hEx hFn w h K) (X : K.In h) (G : h.Ns mainGlobals mg) (hmg : mg ("law" : Str) = some (.ref fa)) : LawAtG l w K 22 63 "_law_script" mg fa h := by
  have T : Tx l.prog w K mg := tx_of c X G hf hs
  have e := hmg.symm.trans T.gf_law
  have efa : fa = He.ga K "law" := by
    injection e with e
    injection e
  subst efa
  obtain ⟨fd, F⟩ := T.d_law
  have b := FunD.bindsA (ps := ["_law_script"]) F fun _ _ _ _ _ _ us hl => match us, hl with | [_], _ => rfl
  have hC : cdOf K (He.ga K "_law_moved") = .ref (He.cT K movedAt).1 := by
    obtain ⟨fm, Fm⟩ := T.d__law_moved
    obtain ⟨oc, od, dV, kV, doc, pm, an, cdv, ct, osl, rfl, lk, hcd, _, _⟩ := Fm.ex
    obtain ⟨cc, rfl⟩ := He.codeIn_ref hcd
    have e2 : (He.cT K movedAt).1 = cc := He.codeOf_eq (p := movedAt) lk rfl
    rw [e2]
    unfold cdOf
    rw [lk]
  refine ⟨fd, (He.cT K movedAt).1, (He.cT K movedAt).2, spLaw K (He.cT K movedAt).2, c.empty, c.out, PySem.W.codeHd_of_K X c.hd, fun s u => b s [u] rfl, fun H a ns hl hP hS => ⟨a, ns, rfl, hP, hS, hl, fun _ => rfl⟩, fun hidden _ _ TB => f_law T (cP := He.cT K movedAt) hC TB F⟩
end Mw
open PySem PySem.W PySem.Calls PyProof.Rows
theorem PySem.Challenge.cw_meantword_k80_whole_sessions_and_new_spe_holds : PySem.Challenge.rw_meantword_k80_whole_sessions_and_new_spe.Holds := by
  w_on; o_law
  refine HandSHeadRun.head_any (r := OpenLaw.row PySem.Challenge.rw_meantword_k80_whole_sessions_and_new_spe) (q := Mw.qv) (H := Mw.hookM Mw.hFa Mw.hEx Mw.hFn) (ob := Mw.ob) (M := 8000) (loose := Mw.names) (d := HandSHeadRun.topDef (OpenLaw.row PySem.Challenge.rw_meantword_k80_whole_sessions_and_new_spe).prog 72) (kwd := []) Mw.ob_eq
    (by kernel_rfl) (fun s => by kernel_rfl) Mw.run (by kernel_rfl) (by kernel_rfl) (by kernel_rfl) (by rfl) (by first | assumption | decide +kernel) (by decide +kernel) ⟨rfl, rfl, rfl, rfl, rfl, by decide +kernel⟩ ?hw ?hc
  case hw => w_witness2
  case hc =>
    refine Mw.walk_ofG (l := PySem.Challenge.rw_meantword_k80_whole_sessions_and_new_spe) (n := 63) (k := 22) (x := "_law_script") rfl (by decide) (by kernel_rfl) Mw.room_law ?F
    intro w mg fa h Y G hmg0
    obtain ⟨K, KX, c⟩ := Y
    have hmg : mg ("law" : PySem.Str) = some (.ref fa) := by
      have e : (HandSHeadRun.topDef (OpenLaw.row PySem.Challenge.rw_meantword_k80_whole_sessions_and_new_spe).prog 72).name = ("law" : PySem.Str) := by kernel_rfl
      rw [← e]
      exact hmg0
    exact ⟨K, KX, Mw.law_at (by kernel_rfl) (by kernel_rfl) c KX G hmg⟩
