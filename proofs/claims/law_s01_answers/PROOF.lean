import PyProof.Rows.All
import Wide.All
import OpenK.AllK
import Wide.FinOn
import PyProof.EqAt
import PyProof.EqKinds
import PyProof.TupleCall
import Open.SpecLaws
import KE.OsGo
import HandS.ForSpec
import HandS.Comp
import HandS.Iter
import HandS.Walk
import HandS.Text
import HandS.Deep
import HandS.NoneIn
import HandS.Conv
import HandS.CallLocal
import HandS.CallSlots
import HandS.ExcInit
import HandS.ExcField
import HandS.TryMany
import HandS.Steps
import PySem.Challenge.RW_cardlocks_s01_answers
import VbndalSpec
import HandS.Style
import HandS.Codes
set_option Elab.async false
set_option linter.all false
set_option maxRecDepth 100000
set_option maxHeartbeats 4000000
/-! # cardlocks, by hand. Part 0: words of this proof over the hand layer -/
namespace Cl
open PySem PySem.Spec PyProof.Rows L2

def top (i : Nat) : Stmt := PySem.Challenge.pw_cardlocks_s01_answers.main.body.getD i (.Pass ⟨0, 0, 0, 0⟩)

/-! ### a def of the top, and its promise -/
structure DefAt (K : PySem.W.Frag) (mg : Str → Option Value) (x : Str) (st : Stmt) (ps : List Str) : Prop where
  ex : ∃ (f : Addr) (fd : FuncData), Fun K x x st f fd ∧ mg x = some (.ref f) ∧ Binds K fd ps []
structure FnAt (P : Program) (w : World) (K : PySem.W.Frag) (mg : Str → Option Value) (base : Heap) (CX : CXT) (k : Nat) (x : Str) (ps : List Str) (sp : Sp) : Prop where
  ex : ∃ (f : Addr) (fd : FuncData), FnOk P w K mg base CX k f fd ps sp ∧ mg x = some (.ref f) ∧ PySem.W.keepIn K (.ref f) = true ∧ Binds K fd ps []
section
variable {P : Program} {w : World} {K : PySem.W.Frag} {mg : Str → Option Value} {base : Heap}
theorem DefAt.fn {x : Str} {st : Stmt} {N ps : List Str} {k : Nat} {sp : Sp} (D : DefAt K mg x st ps) (S : FnScope N ps (defScope st)) (len : ∀ vs H Q E, sp vs H Q E → vs.length = ps.length)
    (hbody : ∀ (f : Addr) (cdv : Value) (A : Around) (outer : List Env) (s : Shared) (H : Hp) (vs : List V) (Q : VK) (E : XK), Room k (A.deeper (envOfC x (defScope st) s.heap.objs.size f cdv)) → sp vs H Q E →
      ∃ t, PSs (cxOf CX0 P w K mg base N x (defScope st) f cdv A outer s H E).nox (defBody st) t ∧ t { nx := fun _ H' => Q .non H', rt := Q } (start N vs) H) : FnAt P w K mg base CX0 (k + 1) x ps sp := by
  obtain ⟨f, fd, F, hm, b⟩ := D.ex
  exact ⟨f, fd, F.ok S len (hbody f), hm, F.kp, b⟩
theorem DefAt.fnX {x : Str} {st : Stmt} {N ps : List Str} {k : Nat} {sp : Sp} (D : DefAt K mg x st ps) (S : FnScope N ps (defScope st)) (len : ∀ vs H Q E, sp vs H Q E → vs.length = ps.length)
    (hbody : ∀ (f : Addr) (cdv : Value) (A : Around) (outer : List Env) (s : Shared) (H : Hp) (vs : List V) (Q : VK) (E : XK), Room k (A.deeper (envOfC x (defScope st) s.heap.objs.size f cdv)) → sp vs H Q E →
      ∃ t, PSs (cxOf (L2.CX P w) P w K mg base N x (defScope st) f cdv A outer s H E) (defBody st) t ∧ t { nx := fun _ H' => Q .non H', rt := Q } (start N vs) H) : FnAt P w K mg base (L2.CX P w) (k + 1) x ps sp := by
  obtain ⟨f, fd, F, hm, b⟩ := D.ex
  exact ⟨f, fd, F.okX S len (hbody f), hm, F.kp, b⟩
end
/-- f(e, ..): its promise, what is wanted of an exception -/
def tFn (sp : Sp) (E : XK) (t : TA) : TE := fun σ H Q => t σ H fun vs H1 => sp vs H1 Q E
section
variable {X : Cx} {CX : CXT} {k : Nat} {ps : List Str} {sp : Sp} {E : XK} {x : Str} {p pos : Pos} {e : Expr} {es : List Expr} {t : TA}
theorem pe_fn (F : FnAt X.prog X.w X.K X.mg X.base CX k x ps sp) (hr : Room k X.A) (hx : Passes CX X E) (ha : PA X (e :: es) t) (hg : Gl X x := by rfl)
    (hdb : (x == ("__debug__" : Str)) = false := by decide) (he : starEach (e :: es) X.env = (false, eval e X.env) :: starEach es X.env := by rfl) (hpl : (backTo pos (starEach es X.env)).any (·.1) = false := by rfl) :
    PE X (.Call (.Name x p) (e :: es) [] pos) (tFn sp E t) := by
  obtain ⟨f, fd, G, hm, hk, hb⟩ := F.ex
  exact pe_callS (E := fun _ => E) G hr hg hm hk hb (fun σ pins H s e s' I c => hx pins σ H s e s' I c) ha hdb he hpl
/-- within a try: what is raised is wished for at the slots -/
def tFnS (sp : Sp) (E : L2.St → XK) (t : TA) : TE := fun σ H Q => t σ H fun vs H1 => sp vs H1 Q (E σ)
theorem pe_fnS {E : L2.St → XK} (F : FnAt X.prog X.w X.K X.mg X.base CX k x ps sp) (hr : Room k X.A) (hx : ∀ σ, PassesAt CX X σ (E σ)) (ha : PA X (e :: es) t) (hg : Gl X x := by rfl)
    (hdb : (x == ("__debug__" : Str)) = false := by decide) (he : starEach (e :: es) X.env = (false, eval e X.env) :: starEach es X.env := by rfl) (hpl : (backTo pos (starEach es X.env)).any (·.1) = false := by rfl) :
    PE X (.Call (.Name x p) (e :: es) [] pos) (tFnS sp E t) := by
  obtain ⟨f, fd, G, hm, hk, hb⟩ := F.ex
  exact pe_callS (E := E) G hr hg hm hk hb hx ha hdb he hpl
end
/-! ### a def at a known address; constants of the top -/
structure DefF (K : PySem.W.Frag) (mg : Str → Option Value) (x : Str) (f : Addr) (st : Stmt) (ps : List Str) : Prop where
  gf : mg x = some (.ref f)
  ex : ∃ fd : FuncData, Fun K x x st f fd ∧ Binds K fd ps []
structure FnF (P : Program) (w : World) (K : PySem.W.Frag) (mg : Str → Option Value) (base : Heap) (CX : CXT) (k : Nat) (f : Addr) (ps : List Str) (sp : Sp) : Prop where
  ex : ∃ fd : FuncData, FnOk P w K mg base CX k f fd ps sp ∧ PySem.W.keepIn K (.ref f) = true ∧ Binds K fd ps []
section
variable {P : Program} {w : World} {K : PySem.W.Frag} {mg : Str → Option Value} {base : Heap}
theorem DefF.fn {x : Str} {f : Addr} {st : Stmt} {N ps : List Str} {k : Nat} {sp : Sp} (D : DefF K mg x f st ps) (S : FnScope N ps (defScope st)) (len : ∀ vs H Q E, sp vs H Q E → vs.length = ps.length)
    (hbody : ∀ (f : Addr) (cdv : Value) (A : Around) (outer : List Env) (s : Shared) (H : Hp) (vs : List V) (Q : VK) (E : XK), Room k (A.deeper (envOfC x (defScope st) s.heap.objs.size f cdv)) → sp vs H Q E →
      ∃ t, PSs (cxOf CX0 P w K mg base N x (defScope st) f cdv A outer s H E).nox (defBody st) t ∧ t { nx := fun _ H' => Q .non H', rt := Q } (start N vs) H) : FnF P w K mg base CX0 (k + 1) f ps sp := by
  obtain ⟨fd, F, b⟩ := D.ex
  exact ⟨fd, F.ok S len (hbody f), F.kp, b⟩
theorem DefF.fnX {x : Str} {f : Addr} {st : Stmt} {N ps : List Str} {k : Nat} {sp : Sp} (D : DefF K mg x f st ps) (S : FnScope N ps (defScope st)) (len : ∀ vs H Q E, sp vs H Q E → vs.length = ps.length)
    (hbody : ∀ (f : Addr) (cdv : Value) (A : Around) (outer : List Env) (s : Shared) (H : Hp) (vs : List V) (Q : VK) (E : XK), Room k (A.deeper (envOfC x (defScope st) s.heap.objs.size f cdv)) → sp vs H Q E →
      ∃ t, PSs (cxOf (L2.CX P w) P w K mg base N x (defScope st) f cdv A outer s H E) (defBody st) t ∧ t { nx := fun _ H' => Q .non H', rt := Q } (start N vs) H) : FnF P w K mg base (L2.CX P w) (k + 1) f ps sp := by
  obtain ⟨fd, F, b⟩ := D.ex
  exact ⟨fd, F.okX S len (hbody f), F.kp, b⟩
end
structure KInt (mg : Str → Option Value) (x : Str) (i : Int) : Prop where
  ex : ∃ t, mg x = some (.int i t)
structure KStr (mg : Str → Option Value) (x : Str) (z : Str) : Prop where
  ex : ∃ t, mg x = some (.str z t)
structure KTup (K : PySem.W.Frag) (mg : Str → Option Value) (x : Str) (a : Addr) (xs : List V) : Prop where
  g : mg x = some (.ref a)
  ex : ∃ (o : Obj) (its : Array Value) (n : Nat), K.lookup a = some o ∧ o.cls = .type "tuple" ∧ o.data = .seq its n ∧ its.size ≤ sizeLine ∧ Vals xs its.toList
theorem KTup.sq {K : PySem.W.Frag} {mg : Str → Option Value} {x : Str} {a : Addr} {xs : List V} (k : KTup K mg x a xs) (H : Hp) : SqT K H a xs := .inr k.ex
section
variable {X : Cx} {x : Str} {pos : Pos}
theorem pe_ki {i : Int} (c : KInt X.mg x i) (hg : Gl X x := by rfl) (hd : (x == ("__debug__" : Str)) = false := by decide) : PE X (.Name x pos) (tC (.int i)) := by
  obtain ⟨t, h⟩ := c.ex
  exact pe_glob hg h ⟨t, rfl⟩ hd
theorem pe_ks {z : Str} (c : KStr X.mg x z) (hg : Gl X x := by rfl) (hd : (x == ("__debug__" : Str)) = false := by decide) : PE X (.Name x pos) (tC (.str z)) := by
  obtain ⟨t, h⟩ := c.ex
  exact pe_glob hg h ⟨t, rfl⟩ hd
theorem pe_kt {a : Addr} {xs : List V} (c : KTup X.K X.mg x a xs) (hg : Gl X x := by rfl) (hd : (x == ("__debug__" : Str)) = false := by decide) : PE X (.Name x pos) (tC (.ref a)) := pe_glob hg c.g rfl hd
end
theorem _root_.L2.Room.units1 {k : Nat} {A : Around} (r : Room k A) : A.units + 65 < cLine := by have := r.un; omega
/-- a local name that holds the def at f -/
def tFnL (i : Nat) (f : Addr) (sp : Sp) (E : XK) (t : TA) : TE := fun σ H Q => σ[i]? = some (some (.ref f)) ∧ t σ H fun vs H1 => sp (vs ++ []) H1 Q E
theorem pe_fnL {X : Cx} {CX : CXT} {k i : Nat} {f : Addr} {ps : List Str} {sp : Sp} {E : XK} {x : Str} {p pos : Pos} {e : Expr} {es : List Expr} {t : TA} (F : FnF X.prog X.w X.K X.mg X.base CX k f ps sp) (hr : Room k X.A) (hN : X.N[i]? = some x) (hv : Vis X.env.scope x) (hx : Passes CX X E) (ha : PA X (e :: es) t)
    (hdb : (x == ("__debug__" : Str)) = false := by decide) (hcd : (x == ("__classdict__" : Str)) = false := by decide) (he : starEach (e :: es) X.env = (false, eval e X.env) :: starEach es X.env := by rfl) (hpl : (backTo pos (starEach es X.env)).any (·.1) = false := by rfl) :
    PE X (.Call (.Name x p) (e :: es) [] pos) (tFnL i f sp E t) := by
  obtain ⟨fd, G, hk, hb⟩ := F.ex
  exact pe_callL (dvs := []) (ds := []) G hr hN hv hk hb .nil hx ha hdb hcd he hpl
/-! ### methods -/
structure MthDef (K : PySem.W.Frag) (C : Addr) (m qual : Str) (st : Stmt) (ps : List Str) : Prop where
  ex : ∃ (f : Addr) (fd : FuncData), Fun K m qual st f fd ∧ Meth K C m f ∧ Binds K fd ps []
structure MthAt (P : Program) (w : World) (K : PySem.W.Frag) (mg : Str → Option Value) (base : Heap) (CX : CXT) (k : Nat) (C : Addr) (m : Str) (ps : List Str) (sp : Sp) : Prop where
  ex : ∃ (f : Addr) (fd : FuncData), FnOk P w K mg base CX k f fd ps sp ∧ Meth K C m f ∧ Binds K fd ps []
section
variable {P : Program} {w : World} {K : PySem.W.Frag} {mg : Str → Option Value} {base : Heap}
theorem MthDef.fn {C : Addr} {m qual : Str} {st : Stmt} {N ps : List Str} {k : Nat} {sp : Sp} (D : MthDef K C m qual st ps) (S : FnScope N ps (defScope st)) (len : ∀ vs H Q E, sp vs H Q E → vs.length = ps.length)
    (hbody : ∀ (f : Addr) (cdv : Value) (A : Around) (outer : List Env) (s : Shared) (H : Hp) (vs : List V) (Q : VK) (E : XK), Room k (A.deeper (envOfC qual (defScope st) s.heap.objs.size f cdv)) → sp vs H Q E →
      ∃ t, PSs (cxOf CX0 P w K mg base N qual (defScope st) f cdv A outer s H E).nox (defBody st) t ∧ t { nx := fun _ H' => Q .non H', rt := Q } (start N vs) H) : MthAt P w K mg base CX0 (k + 1) C m ps sp := by
  obtain ⟨f, fd, F, hm, b⟩ := D.ex
  exact ⟨f, fd, F.ok S len (hbody f), hm, b⟩
theorem MthDef.fnX {C : Addr} {m qual : Str} {st : Stmt} {N ps : List Str} {k : Nat} {sp : Sp} (D : MthDef K C m qual st ps) (S : FnScope N ps (defScope st)) (len : ∀ vs H Q E, sp vs H Q E → vs.length = ps.length)
    (hbody : ∀ (f : Addr) (cdv : Value) (A : Around) (outer : List Env) (s : Shared) (H : Hp) (vs : List V) (Q : VK) (E : XK), Room k (A.deeper (envOfC qual (defScope st) s.heap.objs.size f cdv)) → sp vs H Q E →
      ∃ t, PSs (cxOf (L2.CX P w) P w K mg base N qual (defScope st) f cdv A outer s H E) (defBody st) t ∧ t { nx := fun _ H' => Q .non H', rt := Q } (start N vs) H) : MthAt P w K mg base (L2.CX P w) (k + 1) C m ps sp := by
  obtain ⟨f, fd, F, hm, b⟩ := D.ex
  exact ⟨f, fd, F.okX S len (hbody f), hm, b⟩
end
/-- o.m(e, ..), o.m() of an instance of the class at C -/
def tMth (C : Addr) (m : Str) (sp : Sp) (E : XK) (ta : TE) (t : TA) : TE := fun σ H Q => ta σ H fun x H1 => ∃ a dx fs, x = .ref a ∧ H1 a = some (.ins C dx fs) ∧ fs.lookup m = none ∧ t σ H1 fun vs H2 => sp (x :: vs) H2 Q E
section
variable {X : Cx} {CX : CXT} {k : Nat} {C : Addr} {ps : List Str} {sp : Sp} {E : XK} {m : Str} {pos apos : Pos} {e o : Expr} {es : List Expr} {ta : TE} {t : TA}
theorem pe_mth {pl : Sem Bool} (c : Cls X.K C) (F : MthAt X.prog X.w X.K X.mg X.base CX k C m ps sp) (hr : Room k X.A) (hx : Passes CX X E) (he : PE X o ta) (ha : PA X (e :: es) t)
    (hst : starEach (e :: es) X.env = (false, eval e X.env) :: starEach es X.env := by rfl) (hpl : (backTo pos (starEach es X.env)).any (·.1) = false := by rfl)
    (ht : eval (.Call (.Attribute o m apos) (e :: es) [] pos) X.env = (do
      let ov ← eval o X.env
      standAt apos.atName
      let (f, first) ← holding [ov] (getMethod ov m pl)
      callWith pos f first (backTo pos (starEach (e :: es) X.env)) (backToKw pos (keywordEach [] X.env))) := by rfl) :
    PE X (.Call (.Attribute o m apos) (e :: es) [] pos) (tMth C m sp E ta t) := by
  obtain ⟨f, fd, G, hm, hb⟩ := F.ex
  have h := pe_meth (pl := pl) (dvs := []) (ds := []) (E := E) he c hm G hr hb .nil hx ha hst hpl ht
  refine ⟨fun pins s σ H Q I q => h.run pins s σ H Q I ?_⟩
  have z : tMth C m sp E ta t = tMeth C m sp [] E ta t := by
    unfold tMth tMeth
    simp only [List.append_nil]
  rw [← z]
  exact q
theorem pe_mth0 {pl : Sem Bool} (c : Cls X.K C) (F : MthAt X.prog X.w X.K X.mg X.base CX k C m ps sp) (hr : Room k X.A) (hx : Passes CX X E) (he : PE X o ta)
    (ht : eval (.Call (.Attribute o m apos) [] [] pos) X.env = (do
      let ov ← eval o X.env
      standAt apos.atName
      let (f, first) ← holding [ov] (getMethod ov m pl)
      callWith pos f first (backTo pos (starEach [] X.env)) (backToKw pos (keywordEach [] X.env))) := by rfl) :
    PE X (.Call (.Attribute o m apos) [] [] pos) (tMth C m sp E ta tNil) := by
  obtain ⟨f, fd, G, hm, hb⟩ := F.ex
  have h := pe_meth0 (pl := pl) (dvs := []) (ds := []) (E := E) he c hm G hr hb .nil hx ht
  refine ⟨fun pins s σ H Q I q => h.run pins s σ H Q I ?_⟩
  have z : tMth C m sp E ta tNil = tMeth C m sp [] E ta tNil := by
    unfold tMth tMeth
    simp only [List.append_nil]
  rw [← z]
  exact q
end
/-! ### classes -/
structure ClsDef (K : PySem.W.Frag) (mg : Str → Option Value) (x qual : Str) (C : Addr) (st : Stmt) (ps : List Str) : Prop where
  cl : Cls K C
  gC : mg x = some (.ref C)
  ex : ∃ (f : Addr) (fd : FuncData), Fun K "__init__" qual st f fd ∧ Mk K C f ∧ Binds K fd ps []
structure MkAt (P : Program) (w : World) (K : PySem.W.Frag) (mg : Str → Option Value) (base : Heap) (k : Nat) (x : Str) (C : Addr) (ps : List Str) (sp : Sp) : Prop where
  gC : mg x = some (.ref C)
  ex : ∃ (f : Addr) (fd : FuncData), FnOk P w K mg base CX0 k f fd ps sp ∧ Mk K C f ∧ Binds K fd ps []
theorem ClsDef.mk_ {P : Program} {w : World} {K : PySem.W.Frag} {mg : Str → Option Value} {base : Heap} {x qual : Str} {C : Addr} {st : Stmt} {N ps : List Str} {k : Nat} {sp : Sp} (D : ClsDef K mg x qual C st ps) (S : FnScope N ps (defScope st)) (len : ∀ vs H Q E, sp vs H Q E → vs.length = ps.length)
    (hbody : ∀ (f : Addr) (cdv : Value) (A : Around) (outer : List Env) (s : Shared) (H : Hp) (vs : List V) (Q : VK) (E : XK), Room k (A.deeper (envOfC qual (defScope st) s.heap.objs.size f cdv)) → sp vs H Q E →
      ∃ t, PSs (cxOf CX0 P w K mg base N qual (defScope st) f cdv A outer s H E).nox (defBody st) t ∧ t { nx := fun _ H' => Q .non H', rt := Q } (start N vs) H) : MkAt P w K mg base (k + 1) x C ps sp := by
  obtain ⟨f, fd, F, hm, b⟩ := D.ex
  exact ⟨D.gC, f, fd, F.ok S len (hbody f), hm, b⟩
/-- C(e, ..): a new instance, then its __init__ -/
def tMk (C : Addr) (sp : Sp) (t : TA) : TE := fun σ H Q => t σ H fun vs H1 => ∀ x dx, H1 x = none → H1 dx = none → dx ≠ x → sp (.ref x :: vs) (upd (upd H1 dx (.own x)) x (.ins C dx [])) (fun v H2 => v = .non ∧ Q (.ref x) H2) E0
section
variable {X : Cx} {k : Nat} {C : Addr} {ps : List Str} {sp : Sp} {x : Str} {p pos : Pos} {e : Expr} {es : List Expr} {t : TA}
theorem pe_mk1 (F : MkAt X.prog X.w X.K X.mg X.base k x C ps sp) (hr : Room (k + 1) X.A) (ha : PA X (e :: es) t) (hg : Gl X x := by rfl)
    (hdb : (x == ("__debug__" : Str)) = false := by decide) (he : starEach (e :: es) X.env = (false, eval e X.env) :: starEach es X.env := by rfl) (hpl : (backTo pos (starEach es X.env)).any (·.1) = false := by rfl) :
    PE X (.Call (.Name x p) (e :: es) [] pos) (tMk C sp t) := by
  obtain ⟨f, fd, G, hm, hb⟩ := F.ex
  have h := pe_make (p := p) (pos := pos) (dvs := []) (ds := []) (E := E0) hm G hr hg F.gC hb .nil pass0 ha hdb he hpl
  refine ⟨fun pins s σ H Q I q => h.run pins s σ H Q I ?_⟩
  have z : tMk C sp t = tMake C sp [] E0 t := by
    unfold tMk tMake
    simp only [List.append_nil]
  rw [← z]
  exact q
theorem pe_mk0 (F : MkAt X.prog X.w X.K X.mg X.base k x C ps sp) (hr : Room (k + 1) X.A) (hg : Gl X x := by rfl)
    (hdb : (x == ("__debug__" : Str)) = false := by decide) :
    PE X (.Call (.Name x p) [] [] pos) (tMk C sp tNil) := by
  obtain ⟨f, fd, G, hm, hb⟩ := F.ex
  have h := pe_make0 (p := p) (pos := pos) (dvs := []) (ds := []) (E := E0) hm G hr hg F.gC hb .nil pass0 hdb
  refine ⟨fun pins s σ H Q I q => h.run pins s σ H Q I ?_⟩
  have z : tMk C sp tNil = tMake C sp [] E0 tNil := by
    unfold tMk tMake
    simp only [List.append_nil]
  rw [← z]
  exact q
end
/-! ### a raised error of an own class with fields -/
structure ErrDef (K : PySem.W.Frag) (mg : Str → Option Value) (x qual : Str) (C : Addr) (st : Stmt) (ps : List Str) : Prop where
  ox : OexC K C
  xf : XfC K C
  gC : mg x = some (.ref C)
  me : PySem.W.exmOne K (.ref C) (.ref C) = some true
  ex : ∃ (f : Addr) (fd : FuncData), Fun K "__init__" qual st f fd ∧ PySem.W.findIn K (.ref C) "__init__" = some (some (.ref f)) ∧ PySem.W.typeIn K (.ref f) = some (.type "function") ∧ Binds K fd ps []
structure ErrAt (P : Program) (w : World) (K : PySem.W.Frag) (mg : Str → Option Value) (base : Heap) (k : Nat) (x : Str) (C : Addr) (ps : List Str) (sp : Sp) : Prop where
  ox : OexC K C
  gC : mg x = some (.ref C)
  ex : ∃ (f : Addr) (fd : FuncData), FnOk P w K mg base CX0 k f fd ps sp ∧ PySem.W.findIn K (.ref C) "__init__" = some (some (.ref f)) ∧ PySem.W.typeIn K (.ref f) = some (.type "function") ∧ Binds K fd ps []
theorem ErrDef.mk_ {P : Program} {w : World} {K : PySem.W.Frag} {mg : Str → Option Value} {base : Heap} {x qual : Str} {C : Addr} {st : Stmt} {N ps : List Str} {k : Nat} {sp : Sp} (D : ErrDef K mg x qual C st ps) (S : FnScope N ps (defScope st)) (len : ∀ vs H Q E, sp vs H Q E → vs.length = ps.length)
    (hbody : ∀ (f : Addr) (cdv : Value) (A : Around) (outer : List Env) (s : Shared) (H : Hp) (vs : List V) (Q : VK) (E : XK), Room k (A.deeper (envOfC qual (defScope st) s.heap.objs.size f cdv)) → sp vs H Q E →
      ∃ t, PSs (cxOf CX0 P w K mg base N qual (defScope st) f cdv A outer s H E).nox (defBody st) t ∧ t { nx := fun _ H' => Q .non H', rt := Q } (start N vs) H) : ErrAt P w K mg base (k + 1) x C ps sp := by
  obtain ⟨f, fd, F, hm, ht, b⟩ := D.ex
  exact ⟨D.ox, D.gC, f, fd, F.ok S len (hbody f), hm, ht, b⟩
/-- the promise of an error's __init__: its dict at d, new, holds fs of the given values -/
def spErr (C : Addr) (n : Nat) (fs : List V → List (Str × V)) : Sp := fun vs H Q _ => ∃ (a : Addr) (r : List V), vs = .ref a :: r ∧ r.length = n ∧ H a = some (exo a C none) ∧
  ∀ d H', H d = none → d ≠ a → H' = upd (upd H d (exd d (fs r))) a (exo a C (some d)) → Q .non H'
/-- raise C(e, ..): what is asked of the values -/
def RzEnd (C : Addr) (E : XK) (n : Nat) (fs : List V → List (Str × V)) (vs : List V) (H1 : Hp) : Prop := vs.length ≤ 1000 ∧ ∀ a, H1 a = none → spErr C n fs (.ref a :: (vs ++ [])) (upd H1 a (exo a C none))
  (fun v H2 => v = .non ∧ ∃ (d : Addr) (gs : List (Str × V)), H2 a = some (exo a C (some d)) ∧ H2 d = some (exd d gs) ∧ H1 d = none ∧ E (.ref C) (some d) (upd (del H2 a) d (.xd gs))) (fun _ _ _ => False)
def tRz (C : Addr) (E : XK) (n : Nat) (fs : List V → List (Str × V)) (t : TA) : TS := fun _ σ H => t σ H fun vs H1 => RzEnd C E n fs vs H1
theorem del_same_of {H1 : Hp} {a d : Addr} {o : HO} {u u' u'' : HO} (ha : H1 a = none) (hd : H1 d = none) : Same H1 (upd (del (upd (upd (upd H1 a u) d u') a u'') a) d o) := by
  intro b z e
  have hb : b ≠ d := ne_of_none e hd
  have hb2 : b ≠ a := ne_of_none e ha
  rw [upd_ne hb, del_ne hb2, upd_ne hb2, upd_ne hb, upd_ne hb2]
  exact e
/-- the error's own dict at d, new, all else as it was -/
theorem rz_end {C : Addr} {E : XK} {n : Nat} {fs : List V → List (Str × V)} {vs : List V} {H1 : Hp} (hn : n ≤ 1000) (hl : vs.length = n) (h : ∀ d H', Same H1 H' → H' d = some (.xd (fs vs)) → E (.ref C) (some d) H') : RzEnd C E n fs vs H1 := by
  refine ⟨by omega, fun a ha => ⟨a, vs, by rw [List.append_nil], hl, upd_same, fun d H' hd hne hH => ⟨rfl, d, fs vs, ?_, ?_, ?_, ?_⟩⟩⟩
  · rw [hH, upd_same]
  · rw [hH, upd_ne hne, upd_same]
  · rw [upd_ne hne] at hd
    exact hd
  · rw [upd_ne hne] at hd
    refine h d _ ?_ upd_same
    rw [hH]
    exact del_same_of ha hd
section
variable {X : Cx} {k n : Nat} {C : Addr} {ps : List Str} {fs : List V → List (Str × V)} {x : Str} {p pos pos' : Pos} {e : Expr} {es : List Expr} {t : TA} {E : XK}
theorem ps_rz (F : ErrAt X.prog X.w X.K X.mg X.base k x C ps (spErr C n fs)) (hc : X.calm = true) (tk : Takes X (fun cls d _ H => E cls d H)) (hr : Room (k + 1) X.A) (ha : PA X (e :: es) t) (hg : Gl X x := by rfl)
    (hdb : (x == ("__debug__" : Str)) = false := by decide) (he : starEach (e :: es) X.env = (false, eval e X.env) :: starEach es X.env := by rfl) (hpl : (backTo pos (starEach es X.env)).any (·.1) = false := by rfl) :
    PS X (.Raise (some (.Call (.Name x p) (e :: es) [] pos)) none pos') (tRz C E n fs t) := by
  obtain ⟨f, fd, G, hm, hty, hb⟩ := F.ex
  exact ps_raise (pos := pos') hc tk (pmk_oex (dvs := []) (ds := []) F.ox hm hty G hr hb .nil pass0 hg F.gC ha hdb he hpl)
end
end Cl
namespace Cm
open Vbndal

theorem sq_pow (x m : Nat) : (x * x) ^ m = x ^ (2 * m) := by
  rw [Nat.pow_mul]
  have : x ^ 2 = x * x := by rw [Nat.pow_succ, Nat.pow_succ, Nat.pow_zero, Nat.one_mul]
  rw [this]

theorem mp_eq : ∀ (f p x k : Nat), k < 2 ^ f → modularPower f p x k = x ^ k % p
  | 0, p, x, k, h => by
    have : k = 0 := by simpa using h
    subst this
    simp [modularPower]
  | f + 1, p, x, k, h => by
    unfold modularPower
    by_cases hk : k = 0
    · subst hk; simp
    · rw [if_neg hk]
      have h2 : k / 2 < 2 ^ f := by
        rw [Nat.pow_succ] at h
        omega
      have ih := mp_eq f p (x * x % p) (k / 2) h2
      have e1 : (x * x % p) ^ (k / 2) % p = x ^ (2 * (k / 2)) % p := by
        rw [← Nat.pow_mod, sq_pow]
      show (if k % 2 = 0 then modularPower f p (x * x % p) (k / 2) else x * modularPower f p (x * x % p) (k / 2) % p) = x ^ k % p
      rw [ih, e1]
      by_cases he : k % 2 = 0
      · rw [if_pos he]
        have : 2 * (k / 2) = k := by omega
        rw [this]
      · rw [if_neg he]
        have e : k = 2 * (k / 2) + 1 := by omega
        conv => rhs; rw [e, Nat.pow_succ, Nat.mul_comm]
        rw [Nat.mul_mod, Nat.mod_mod, ← Nat.mul_mod]

theorem lock_eq {p x k : Nat} (h : k < 1048576) : lockCard p x k = x ^ k % p := by
  unfold lockCard
  rw [mp_eq 20 p (x % p) k h, ← Nat.pow_mod]

theorem lock_lt {p x k : Nat} (hp : 0 < p) (h : k < 1048576) : lockCard p x k < p := by
  rw [lock_eq h]
  exact Nat.mod_lt _ hp

/-! the facts of the primes up to 999, by the kernel -/
def okP (p : Nat) : Bool := decide (11 ≤ p) && isSafePrime p
def chkInv (p : Nat) : Bool := !okP p || (decide (p = 2 * (p / 2) + 1) && decide (p ≤ 983) && (List.range (p / 2)).all fun k => k == 0 || (decide (k * inverseKey p k % (p / 2) = 1) && decide (1 ≤ inverseKey p k) && decide (inverseKey p k < p / 2)))
def chkP (n : Nat) : Bool := okP n == ((decide (11 ≤ n) && decide (n ≤ 983)) && (isPrime n && isPrime ((n - 1) / 2)))
theorem chkInv_all : ∀ p, p < 1000 → chkInv p = true := by decide +kernel
theorem chkP_all : ∀ p, p < 1000 → chkP p = true := by decide +kernel

/-- a table's prime -/
structure Pr (p : Nat) : Prop where
  lo : 11 ≤ p
  hi : p ≤ 983
  ok : okP p = true
  odd : p = 2 * (p / 2) + 1
  inv : ∀ k, 1 ≤ k → k < p / 2 → k * inverseKey p k % (p / 2) = 1 ∧ 1 ≤ inverseKey p k ∧ inverseKey p k < p / 2

theorem Pr.of {p : Nat} (h : p < 1000) (o : okP p = true) : Pr p := by
  have c := chkInv_all p h
  unfold chkInv at c
  rw [o] at c
  simp only [Bool.not_true, Bool.false_or, Bool.and_eq_true, decide_eq_true_eq, List.all_eq_true, List.mem_range, Bool.or_eq_true, beq_iff_eq] at c
  refine ⟨?_, c.1.2, o, c.1.1, fun k h1 h2 => ?_⟩
  · have := o
    unfold okP at this
    simp only [Bool.and_eq_true, decide_eq_true_eq] at this
    exact this.1
  · rcases c.2 k h2 with h0 | h0
    · omega
    · exact ⟨h0.1.1, h0.1.2, h0.2⟩

section
variable {p : Nat}
theorem Pr.q2 (P : Pr p) : 5 ≤ p / 2 := by have := P.lo; have := P.odd; omega
theorem Pr.q491 (P : Pr p) : p / 2 ≤ 491 := by have := P.hi; omega
theorem Pr.half (P : Pr p) : (p - 1) / 2 = p / 2 := by have := P.odd; omega

/-- a power of a square, its exponent reduced -/
theorem pow_red {x a : Nat} (q : Nat) (hx : x ^ q % p = 1 % p) : x ^ a % p = x ^ (a % q) % p := by
  have e : a = q * (a / q) + a % q := (Nat.div_add_mod a q).symm
  conv => lhs; rw [e]
  rw [Nat.pow_add, Nat.pow_mul, Nat.mul_mod, Nat.pow_mod, hx, ← Nat.pow_mod, Nat.one_pow, ← Nat.mul_mod, Nat.one_mul]

structure IsC (p x : Nat) : Prop where
  lo : 2 ≤ x
  hi : x < p
  sq : x ^ (p / 2) % p = 1

theorem isC_iff (P : Pr p) {x : Nat} : isCard p x = true ↔ IsC p x := by
  unfold isCard
  rw [Bool.and_eq_true, decide_eq_true_eq, beq_iff_eq]
  unfold subgroupOrder
  have := P.q491
  rw [lock_eq (by omega)]
  constructor
  · intro h; exact ⟨h.1.1, h.1.2, h.2⟩
  · intro h; exact ⟨⟨h.lo, h.hi⟩, h.sq⟩

structure IsK (p k : Nat) : Prop where
  lo : 1 ≤ k
  hi : k < p / 2

theorem isK_iff {k : Nat} : isKey p k = true ↔ IsK p k := by
  unfold isKey subgroupOrder
  rw [decide_eq_true_eq]
  exact ⟨fun h => ⟨h.1, h.2⟩, fun h => ⟨h.lo, h.hi⟩⟩

theorem IsK.small (P : Pr p) {k : Nat} (h : IsK p k) : k < 1048576 := by have := P.q491; have := h.hi; omega

theorem IsC.one (P : Pr p) {x : Nat} (c : IsC p x) : x ^ (p / 2) % p = 1 % p := by
  rw [c.sq, Nat.mod_eq_of_lt (by have := P.lo; omega)]

theorem inv_isK (P : Pr p) {k : Nat} (h : IsK p k) : IsK p (inverseKey p k) := ⟨(P.inv k h.lo h.hi).2.1, (P.inv k h.lo h.hi).2.2⟩
theorem inv_mul (P : Pr p) {k : Nat} (h : IsK p k) : k * inverseKey p k % (p / 2) = 1 := (P.inv k h.lo h.hi).1

/-- the first other that does it is the inverse -/
theorem inv_uniq (P : Pr p) {k o : Nat} (h : IsK p k) (h2 : o < p / 2) (e : k * o % (p / 2) = 1) : o = inverseKey p k := by
  have hq := P.q2
  have hi := inv_isK P h
  have hm := inv_mul P h
  have a1 : (o * (k * inverseKey p k)) % (p / 2) = o % (p / 2) := by
    rw [Nat.mul_mod, hm, Nat.mul_one, Nat.mod_mod]
  have a2 : (o * (k * inverseKey p k)) % (p / 2) = inverseKey p k % (p / 2) := by
    have : o * (k * inverseKey p k) = (k * o) * inverseKey p k := by
      rw [← Nat.mul_assoc, Nat.mul_comm o k]
    rw [this, Nat.mul_mod, e, Nat.one_mul, Nat.mod_mod]
  rw [a1, Nat.mod_eq_of_lt h2, Nat.mod_eq_of_lt hi.hi] at a2
  exact a2

/-- a product of keys is a key -/
theorem mul_isK (P : Pr p) {a b : Nat} (ha : IsK p a) (hb : IsK p b) : IsK p (a * b % (p / 2)) := by
  have hq := P.q2
  refine ⟨?_, Nat.mod_lt _ (by omega)⟩
  refine Nat.one_le_iff_ne_zero.mpr fun h0 => ?_
  have hm := inv_mul P ha
  have e : (b * (a * inverseKey p a)) % (p / 2) = b % (p / 2) := by
    rw [Nat.mul_mod, hm, Nat.mul_one, Nat.mod_mod]
  have e2 : (b * (a * inverseKey p a)) % (p / 2) = 0 := by
    have : b * (a * inverseKey p a) = (a * b) * inverseKey p a := by
      rw [← Nat.mul_assoc, Nat.mul_comm b a]
    rw [this, Nat.mul_mod, h0, Nat.zero_mul, Nat.zero_mod]
  rw [e2, Nat.mod_eq_of_lt hb.hi] at e
  have := hb.lo
  omega

/-- locked, then with the inverse -/
theorem unlock (P : Pr p) {x k : Nat} (c : IsC p x) (h : IsK p k) : lockCard p (lockCard p x k) (inverseKey p k) = x := by
  rw [lock_eq (h.small P), lock_eq ((inv_isK P h).small P), ← Nat.pow_mod, ← Nat.pow_mul, pow_red (p / 2) (c.one P), inv_mul P h, Nat.pow_one, Nat.mod_eq_of_lt c.hi]

theorem lock_inj (P : Pr p) {x y k : Nat} (cx : IsC p x) (cy : IsC p y) (h : IsK p k) (e : lockCard p x k = lockCard p y k) : x = y := by
  have := unlock P cx h
  rw [e, unlock P cy h] at this
  exact this.symm

/-- a locked card is a card -/
theorem lock_isC (P : Pr p) {x k : Nat} (c : IsC p x) (h : IsK p k) : IsC p (lockCard p x k) := by
  have hp := P.lo
  have hs : (lockCard p x k) ^ (p / 2) % p = 1 := by
    rw [lock_eq (h.small P), ← Nat.pow_mod, ← Nat.pow_mul, Nat.mul_comm, Nat.pow_mul, Nat.pow_mod, c.sq, Nat.one_pow, Nat.mod_eq_of_lt (by omega)]
  have hl : lockCard p x k < p := lock_lt (by omega) (h.small P)
  refine ⟨?_, hl, hs⟩
  have u := unlock P c h
  have hq := P.q2
  rcases Nat.lt_or_ge (lockCard p x k) 2 with h2 | h2
  · exfalso
    have c0 : lockCard p x k = 0 ∨ lockCard p x k = 1 := by omega
    rcases c0 with z | z
    · rw [z, Nat.zero_pow (by omega), Nat.zero_mod] at hs
      cases hs
    · rw [z, lock_eq ((inv_isK P h).small P), Nat.one_pow, Nat.mod_eq_of_lt (by omega)] at u
      have := c.lo
      omega
  · exact h2

/-- several locks: one with the product -/
theorem lock_lock (P : Pr p) {x a b : Nat} (c : IsC p x) (ha : IsK p a) (hb : IsK p b) : lockCard p (lockCard p x a) b = lockCard p x (a * b % (p / 2)) := by
  have hab := mul_isK P ha hb
  rw [lock_eq (ha.small P), lock_eq (hb.small P), lock_eq (hab.small P), ← Nat.pow_mod, ← Nat.pow_mul, pow_red (p / 2) (c.one P)]

theorem inv_mul_dist (P : Pr p) {a b : Nat} (ha : IsK p a) (hb : IsK p b) : inverseKey p (a * b % (p / 2)) = inverseKey p a * inverseKey p b % (p / 2) := by
  have hq := P.q2
  have hab := mul_isK P ha hb
  have hi := mul_isK P (inv_isK P ha) (inv_isK P hb)
  refine (inv_uniq P hab hi.hi ?_).symm
  rw [← Nat.mul_mod]
  have e : a * b * (inverseKey p a * inverseKey p b) = (a * inverseKey p a) * (b * inverseKey p b) := by
    rw [Nat.mul_assoc, Nat.mul_assoc, Nat.mul_left_comm b]
  rw [e, Nat.mul_mod, inv_mul P ha, inv_mul P hb, Nat.mul_one, Nat.mod_eq_of_lt (by omega)]

theorem one_isK (P : Pr p) : IsK p 1 := ⟨Nat.le_refl _, by have := P.q2; omega⟩
theorem inv_one (P : Pr p) : inverseKey p 1 = 1 := by
  have hq := P.q2
  refine (inv_uniq P (one_isK P) (by omega) ?_).symm
  rw [Nat.mul_one, Nat.mod_eq_of_lt (by omega)]

/-- all keys' locks taken off one by one are taken off by the joint key's inverse -/
theorem fold_isK (P : Pr p) : ∀ (ks : List Nat) (a : Nat), IsK p a → (∀ k ∈ ks, IsK p k) → IsK p (ks.foldl (fun a k => a * k % subgroupOrder p) a)
  | [], _, h, _ => h
  | k :: ks, a, h, hk => by
    rw [List.foldl_cons]
    exact fold_isK P ks _ (mul_isK P h (hk k (List.mem_cons_self ..))) fun k' h' => hk k' (List.mem_cons_of_mem _ h')

theorem joint_isK (P : Pr p) {ks : List Nat} (h : ∀ k ∈ ks, IsK p k) : IsK p (jointKey p ks) := fold_isK P ks 1 (one_isK P) h

theorem fold_open (P : Pr p) : ∀ (ks : List Nat) (a x : Nat), IsC p x → IsK p a → (∀ k ∈ ks, IsK p k) →
    lockCard p x (inverseKey p (ks.foldl (fun a k => a * k % subgroupOrder p) a)) = ks.foldl (fun x k => lockCard p x (inverseKey p k)) (lockCard p x (inverseKey p a))
  | [], _, _, _, _, _ => rfl
  | k :: ks, a, x, c, ha, hk => by
    have hk1 := hk k (List.mem_cons_self ..)
    have hm : IsK p (a * k % subgroupOrder p) := mul_isK P ha hk1
    rw [List.foldl_cons, List.foldl_cons, fold_open P ks _ x c hm fun k' h' => hk k' (List.mem_cons_of_mem _ h')]
    have e : inverseKey p (a * k % subgroupOrder p) = inverseKey p a * inverseKey p k % (p / 2) := inv_mul_dist P ha hk1
    rw [e, ← lock_lock P c (inv_isK P ha) (inv_isK P hk1)]

theorem lock_one (P : Pr p) {x : Nat} (c : IsC p x) : lockCard p x 1 = x := by
  rw [lock_eq (by omega), Nat.pow_one, Nat.mod_eq_of_lt c.hi]

theorem joint_open (P : Pr p) {ks : List Nat} {x : Nat} (c : IsC p x) (h : ∀ k ∈ ks, IsK p k) : lockCard p x (inverseKey p (jointKey p ks)) = ks.foldl (fun x k => lockCard p x (inverseKey p k)) x := by
  have e := fold_open P ks 1 x c (one_isK P) h
  rw [inv_one P, lock_one P c] at e
  exact e
end
end Cm
namespace Cm
open Vbndal
theorem sub_perm {α : Type} [DecidableEq α] : ∀ {l1 l2 : List α}, l1.Nodup → (∀ x ∈ l1, x ∈ l2) → l2.length ≤ l1.length → l1.Perm l2
  | [], l2, _, _, h => by
    have : l2 = [] := List.length_eq_zero_iff.mp (by simpa using h)
    rw [this]
  | x :: l1, l2, hn, hs, hl => by
    have hx := hs x (List.mem_cons_self ..)
    have p := List.perm_cons_erase hx
    have hn' := List.nodup_cons.mp hn
    refine (List.Perm.cons x (sub_perm (l2 := l2.erase x) hn'.2 (fun y hy => ?_) ?_)).trans p.symm
    · have hne : y ≠ x := fun e => hn'.1 (e ▸ hy)
      exact (List.mem_erase_of_ne hne).mpr (hs y (List.mem_cons_of_mem _ hy))
    · have := p.length_eq
      simp only [List.length_cons] at this hl
      omega
theorem perm_sub {α : Type} [DecidableEq α] {l1 l2 : List α} (hn : l1.Nodup) (hl : l1.length = l2.length) : l1.Perm l2 ↔ ∀ x ∈ l1, x ∈ l2 :=
  ⟨fun p x hx => p.mem_iff.mp hx, fun h => sub_perm hn h (by omega)⟩
theorem idx_some {w : List Nat} {y i : Nat} (h : (w.findIdx? fun x => x == y) = some i) : w[i]? = some y := by
  obtain ⟨h1, h2, _⟩ := List.findIdx?_eq_some_iff_getElem.mp h
  rw [List.getElem?_eq_getElem h1]
  simpa using h2
theorem idx_of {w : List Nat} {y : Nat} (h : y ∈ w) : (w.findIdx? fun x => x == y) = some (w.idxOf y) := by
  have hl := List.idxOf_lt_length_of_mem h
  exact List.findIdx?_eq_some_iff_findIdx_eq.mpr ⟨hl, rfl⟩
def lockRow (p k : Nat) (l : List Nat) : List Nat := l.map fun x => lockCard p x k
theorem isOrder_iff {n : Nat} {m : List Nat} : isOrder n m = true ↔ m.length = n ∧ ∀ i < n, i ∈ m := by
  unfold isOrder
  rw [Bool.and_eq_true, beq_iff_eq, List.all_eq_true]
  simp only [List.mem_range, List.contains_iff_mem]
theorem order_iff {w r : List Nat} (hn : w.Nodup) (hl : r.length = w.length) : isOrder w.length (r.map fun y => (w.findIdx? fun x => x == y).getD w.length) = true ↔ w.Perm r := by
  rw [perm_sub hn hl.symm, isOrder_iff, List.length_map]
  constructor
  · rintro ⟨_, h⟩ x hx
    obtain ⟨i, hi, rfl⟩ := List.mem_iff_getElem.mp hx
    obtain ⟨y, hy, e⟩ := List.mem_map.mp (h i hi)
    cases e2 : (w.findIdx? fun x => x == y) with
    | none =>
      rw [e2] at e
      simp at e
      omega
    | some j =>
      rw [e2] at e
      simp at e
      subst e
      have := idx_some e2
      rw [List.getElem?_eq_getElem hi] at this
      rw [Option.some.inj this]
      exact hy
  · intro h
    refine ⟨hl, fun i hi => ?_⟩
    have hw : w[i] ∈ w := List.getElem_mem hi
    refine List.mem_map.mpr ⟨w[i], h _ hw, ?_⟩
    rw [idx_of hw, hn.idxOf_getElem i hi]
    rfl
theorem lockRow_len (p k : Nat) (l : List Nat) : (lockRow p k l).length = l.length := by
  unfold lockRow
  rw [List.length_map]
theorem order_no {p k : Nat} {l r : List Nat} (hn : (lockRow p k l).Nodup) (hl : r.length = l.length) (h : ¬ (lockRow p k l).Perm r) : orderFor p l r k = none := by
  have e := order_iff (r := r) hn (by rw [lockRow_len]; exact hl)
  rw [lockRow_len] at e
  unfold orderFor
  simp only []
  rw [if_neg]
  intro z
  exact h (e.mp z.2)
theorem order_yes {p k : Nat} {l r : List Nat} (hn : (lockRow p k l).Nodup) (hl : r.length = l.length) (h : (lockRow p k l).Perm r) : orderFor p l r k = some (r.map fun y => (lockRow p k l).idxOf y) := by
  have e := order_iff (r := r) hn (by rw [lockRow_len]; exact hl)
  rw [lockRow_len] at e
  unfold orderFor
  simp only []
  rw [if_pos]
  · refine congrArg some (List.map_congr_left fun y hy => ?_)
    have := idx_of (h.mem_iff.mpr hy)
    unfold lockRow at this
    rw [this]
    rfl
  · exact ⟨hl, e.mpr h⟩
theorem lock_nodup {p k : Nat} {l : List Nat} (P : Pr p) (hk : IsK p k) (hc : ∀ x ∈ l, IsC p x) (hn : l.Nodup) : (lockRow p k l).Nodup := by
  unfold lockRow
  induction l with
  | nil => exact List.nodup_nil
  | cons x l ih =>
    rw [List.map_cons, List.nodup_cons]
    have h := List.nodup_cons.mp hn
    refine ⟨fun hm => ?_, ih (fun y hy => hc y (List.mem_cons_of_mem _ hy)) h.2⟩
    obtain ⟨y, hy, e⟩ := List.mem_map.mp hm
    have := lock_inj P (hc y (List.mem_cons_of_mem _ hy)) (hc x (List.mem_cons_self ..)) hk e
    exact h.1 (this ▸ hy)
theorem match_count : ∀ (w r : List Nat), w.Nodup → matchCount w r = (w.filter fun x => decide (x ∈ r)).length
  | [], _, _ => rfl
  | x :: w, r, hn => by
    have h := List.nodup_cons.mp hn
    unfold matchCount
    by_cases hx : x ∈ r
    · rw [if_pos (List.contains_iff_mem.mpr hx), match_count w (r.erase x) h.2, List.filter_cons_of_pos (by simpa using hx), List.length_cons]
      congr 2
      refine List.filter_congr fun y hy => ?_
      have hne : y ≠ x := fun e => h.1 (e ▸ hy)
      simp [List.mem_erase_of_ne hne]
    · rw [if_neg (fun z => hx (List.contains_iff_mem.mp z)), match_count w r h.2, List.filter_cons_of_neg (by simpa using hx)]
theorem filter_split {α : Type} (p : α → Bool) : ∀ l : List α, (l.filter p).length + (l.filter fun x => !p x).length = l.length
  | [] => rfl
  | x :: l => by
    have ih := filter_split p l
    cases h : p x <;> simp [h] <;> omega
theorem error_count {p k : Nat} {l r : List Nat} (hn : (lockRow p k l).Nodup) : errorCount p l r k = ((lockRow p k l).filter fun x => !decide (x ∈ r)).length := by
  have e := match_count _ r hn
  have s := filter_split (fun x => decide (x ∈ r)) (lockRow p k l)
  rw [lockRow_len] at s
  unfold errorCount
  have e2 : (l.map fun x => lockCard p x k) = lockRow p k l := rfl
  rw [e2, e]
  omega
theorem ed_len {α : Type} [DecidableEq α] : ∀ (n : Nat) (l : List α), l.length ≤ n → l.eraseDups.length ≤ l.length ∧ (l.eraseDups.length = l.length ↔ l.Nodup)
  | _, [], _ => by simp
  | 0, x :: l, h => by simp at h
  | n + 1, x :: l, h => by
    rw [List.eraseDups_cons, List.length_cons, List.length_cons, List.nodup_cons]
    have hf := List.length_filter_le (fun b => !b == x) l
    have ih := ed_len n (l.filter fun b => !b == x) (by simp at h; omega)
    refine ⟨by omega, ?_⟩
    constructor
    · intro e
      have e1 : (l.filter fun b => !b == x).length = l.length := by omega
      have e2 := List.length_filter_eq_length_iff.mp e1
      have hx : ¬ x ∈ l := fun hm => by simpa using e2 x hm
      refine ⟨hx, ?_⟩
      have e3 : l.filter (fun b => !b == x) = l := List.filter_eq_self.mpr e2
      rw [e3] at ih e
      exact ih.2.mp (by omega)
    · rintro ⟨hx, hn⟩
      have e3 : l.filter (fun b => !b == x) = l := List.filter_eq_self.mpr fun y hy => by
        have : y ≠ x := fun e => hx (e ▸ hy)
        simpa using this
      rw [e3] at ih ⊢
      have := ih.2.mpr hn
      omega
theorem ed_nodup {α : Type} [DecidableEq α] (l : List α) : (l.eraseDups.length = l.length) ↔ l.Nodup := (ed_len l.length l (Nat.le_refl _)).2
theorem nodup_take {α : Type} [DecidableEq α] (d : α) (l : List α) : l.Nodup ↔ ∀ i < l.length, ¬ l.getD i d ∈ l.take i := by
  unfold List.Nodup
  rw [List.pairwise_iff_getElem]
  constructor
  · intro h i hi hm
    rw [List.getD_eq_getElem?_getD, List.getElem?_eq_getElem hi] at hm
    obtain ⟨j, hj, e⟩ := List.mem_iff_getElem.mp hm
    rw [List.length_take] at hj
    rw [List.getElem_take] at e
    exact h j i (by omega) hi (by omega) e
  · intro h i j hi hj hij e
    refine h j hj ?_
    rw [List.getD_eq_getElem?_getD, List.getElem?_eq_getElem hj]
    show l[j] ∈ _
    rw [← e]
    refine List.mem_iff_getElem.mpr ⟨i, ?_, ?_⟩
    · rw [List.length_take]
      omega
    · rw [List.getElem_take]
theorem all_diff {α : Type} [DecidableEq α] (d : α) (l : List α) : (((List.range l.length).map fun i => !decide (l.getD i d ∈ l.take i)).all id) = decide l.Nodup := by
  rw [Bool.eq_iff_iff, List.all_eq_true, decide_eq_true_eq, nodup_take d]
  constructor
  · intro h i hi
    have := h _ (List.mem_map.mpr ⟨i, List.mem_range.mpr hi, rfl⟩)
    simpa using this
  · intro h b hb
    obtain ⟨i, hi, rfl⟩ := List.mem_map.mp hb
    have := h i (List.mem_range.mp hi)
    simpa using this
end Cm
namespace Cm
open Vbndal
/-- more fuel than signs: it doesn't matter how much -/
theorem tok_fuel : ∀ (f g i : Nat) (t : Bytes), t.length < f → t.length < g → tokenizeFrom f i t = tokenizeFrom g i t
  | 0, _, _, _, h, _ => absurd h (Nat.not_lt_zero _)
  | _, 0, _, _, _, h => absurd h (Nat.not_lt_zero _)
  | f + 1, g + 1, i, [], _, _ => by
    unfold tokenizeFrom
    rfl
  | f + 1, g + 1, i, c :: t, hf, hg => by
    have h1 : t.length < f := by simpa using hf
    have h2 : t.length < g := by simpa using hg
    have hw : ∀ (p : Nat → Bool), p c = true → ((c :: t).drop ((c :: t).takeWhile p).length).length < f ∧ ((c :: t).drop ((c :: t).takeWhile p).length).length < g := fun p hp => by
      rw [List.takeWhile_cons_of_pos hp, List.length_cons, List.drop_succ_cons, List.length_drop]
      omega
    unfold tokenizeFrom
    by_cases e1 : c = 32 ∨ c = 10
    · rw [if_pos e1, if_pos e1]
      exact tok_fuel f g _ t h1 h2
    · rw [if_neg e1, if_neg e1]
      by_cases e2 : c = 59
      · rw [if_pos e2, if_pos e2, tok_fuel f g _ t h1 h2]
      · rw [if_neg e2, if_neg e2]
        by_cases e3 : isLetter c = true
        · rw [if_pos e3, if_pos e3]
          have := hw _ e3
          simp only []
          rw [tok_fuel f g _ _ this.1 this.2]
        · rw [if_neg e3, if_neg e3]
          by_cases e4 : isDigit c = true
          · rw [if_pos e4, if_pos e4]
            have := hw _ e4
            simp only []
            rw [tok_fuel f g _ _ this.1 this.2]
          · rw [if_neg e4, if_neg e4]
def TZ (i : Nat) (t : Bytes) : Tokens := tokenizeFrom (t.length + 1) i t
theorem tz_nil (i : Nat) : TZ i [] = [] := rfl
theorem tz_sp {i c : Nat} {t : Bytes} (h : c = 32 ∨ c = 10) : TZ i (c :: t) = TZ (i + 1) t := by
  unfold TZ
  rw [show tokenizeFrom ((c :: t).length + 1) i (c :: t) = tokenizeFrom (t.length + 1) (i + 1) t by
    conv => lhs; unfold tokenizeFrom
    rw [if_pos h]
    rfl]
theorem tz_semi {i : Nat} {t : Bytes} : TZ i (59 :: t) = (i, .semicolon) :: TZ (i + 1) t := by
  unfold TZ
  conv => lhs; unfold tokenizeFrom
  rw [if_neg (by decide), if_pos rfl]
  rfl
theorem tz_word {i c : Nat} {t : Bytes} (h : isLetter c = true) : TZ i (c :: t) = if 8 < ((c :: t).takeWhile isLetter).length then [(i, .invalid)] else (i, .word ((c :: t).takeWhile isLetter)) :: TZ (i + ((c :: t).takeWhile isLetter).length) ((c :: t).drop ((c :: t).takeWhile isLetter).length) := by
  have hc : 97 ≤ c ∧ c ≤ 122 := by simpa [isLetter] using h
  unfold TZ
  conv => lhs; unfold tokenizeFrom
  rw [if_neg (by omega), if_neg (by omega), if_pos h]
  simp only []
  split
  · rfl
  · rw [tok_fuel _ (((c :: t).drop ((c :: t).takeWhile isLetter).length).length + 1)]
    · rw [List.takeWhile_cons_of_pos h, List.length_cons, List.drop_succ_cons, List.length_drop, List.length_cons]
      omega
    · omega
theorem tz_num {i c : Nat} {t : Bytes} (h : isDigit c = true) : TZ i (c :: t) = if 3 < ((c :: t).takeWhile isDigit).length ∨ (1 < ((c :: t).takeWhile isDigit).length ∧ c = 48) then [(i, .invalid)] else (i, .number (decimalValue ((c :: t).takeWhile isDigit))) :: TZ (i + ((c :: t).takeWhile isDigit).length) ((c :: t).drop ((c :: t).takeWhile isDigit).length) := by
  have hc : 48 ≤ c ∧ c ≤ 57 := by simpa [isDigit] using h
  have hl : ¬ isLetter c = true := by
    simp [isLetter]
    omega
  unfold TZ
  conv => lhs; unfold tokenizeFrom
  rw [if_neg (by omega), if_neg (by omega), if_neg hl, if_pos h]
  simp only []
  split
  · rfl
  · rw [tok_fuel _ (((c :: t).drop ((c :: t).takeWhile isDigit).length).length + 1)]
    · rw [List.takeWhile_cons_of_pos h, List.length_cons, List.drop_succ_cons, List.length_drop, List.length_cons]
      omega
    · omega
theorem tz_bad {i c : Nat} {t : Bytes} (h1 : ¬ (c = 32 ∨ c = 10)) (h2 : ¬ c = 59) (h3 : ¬ isLetter c = true) (h4 : ¬ isDigit c = true) : TZ i (c :: t) = [(i, .invalid)] := by
  unfold TZ
  conv => lhs; unfold tokenizeFrom
  rw [if_neg h1, if_neg h2, if_neg h3, if_neg h4]
/-- a token of the program -/
structure Tk where
  kind : Nat
  off : Nat
  signs : List Nat
/-- what a word is -/
structure NmOk (w : List Nat) : Prop where
  most : w.length ≤ 8
  one : 1 ≤ w.length
  low : ∀ c ∈ w, 97 ≤ c
/-- the signs of a token of the specification -/
def SgOk : Token → List Nat → Prop
  | .word w, sg => sg = w ∧ NmOk w
  | .number n, sg => decimalValue sg = n ∧ (∀ c ∈ sg, 48 ≤ c ∧ c ≤ 57) ∧ sg.length ≤ 3
  | _, _ => True
def kindOf : Token → Nat
  | .word _ => 1
  | .number _ => 2
  | .semicolon => 3
  | .invalid => 4
/-- the specification's tokens against the program's -/
inductive TR (n : Nat) : Tokens → List Tk → Prop
  | fin {r : List Tk} : TR n [] (⟨5, n, []⟩ :: r)
  | bad {i : Nat} {sg : List Nat} {l : Tokens} {r : List Tk} : TR n ((i, .invalid) :: l) (⟨4, i, sg⟩ :: r)
  | tok {i : Nat} {t : Token} {sg : List Nat} {l : Tokens} {r : List Tk} (h : t ≠ .invalid) (s : SgOk t sg) (q : TR n l r) : TR n ((i, t) :: l) (⟨kindOf t, i, sg⟩ :: r)
/-- the first token of a text -/
def tkAt (i : Nat) (t : Bytes) : Tk := match t with
  | [] => ⟨5, i, []⟩
  | c :: r => if isLetter c = true then ⟨if ((c :: r).takeWhile isLetter).length ≤ 8 then 1 else 4, i, (c :: r).takeWhile isLetter⟩
    else if isDigit c = true then ⟨if ((c :: r).takeWhile isDigit).length ≤ 3 ∧ (((c :: r).takeWhile isDigit).length = 1 ∨ c ≠ 48) then 2 else 4, i, (c :: r).takeWhile isDigit⟩
    else ⟨if c = 59 then 3 else 4, i, [c]⟩
theorem tw_all (p : Nat → Bool) (l : List Nat) : ∀ x ∈ l.takeWhile p, p x = true := fun x hx => by
  have := List.all_takeWhile (p := p) (l := l)
  rw [List.all_eq_true] at this
  exact this x hx
theorem tk_pos {i c : Nat} {t : Bytes} : 1 ≤ (tkAt i (c :: t)).signs.length := by
  unfold tkAt
  simp only []
  by_cases h : isLetter c = true
  · rw [if_pos h]
    simp [List.takeWhile_cons_of_pos h]
  · rw [if_neg h]
    by_cases h2 : isDigit c = true
    · rw [if_pos h2]
      simp [List.takeWhile_cons_of_pos h2]
    · rw [if_neg h2]
      simp
theorem tk_le {i : Nat} {t : Bytes} : (tkAt i t).signs.length ≤ t.length := by
  cases t with
  | nil => simp [tkAt]
  | cons c t =>
    unfold tkAt
    simp only []
    by_cases h : isLetter c = true
    · rw [if_pos h]
      exact (List.takeWhile_prefix isLetter (l := c :: t)).length_le
    · rw [if_neg h]
      by_cases h2 : isDigit c = true
      · rw [if_pos h2]
        exact (List.takeWhile_prefix isDigit (l := c :: t)).length_le
      · rw [if_neg h2]
        simp
/-- one token read: what follows tells of the whole -/
theorem tr_step {n i c : Nat} {t : Bytes} {r : List Tk} (h1 : ¬ (c = 32 ∨ c = 10)) (h : TR n (TZ (i + (tkAt i (c :: t)).signs.length) ((c :: t).drop (tkAt i (c :: t)).signs.length)) r) : TR n (TZ i (c :: t)) (tkAt i (c :: t) :: r) := by
  by_cases e3 : isLetter c = true
  · have e : tkAt i (c :: t) = ⟨if ((c :: t).takeWhile isLetter).length ≤ 8 then 1 else 4, i, (c :: t).takeWhile isLetter⟩ := by
      unfold tkAt
      simp only []
      rw [if_pos e3]
    rw [e] at h ⊢
    rw [tz_word e3]
    by_cases h8 : 8 < ((c :: t).takeWhile isLetter).length
    · rw [if_pos h8, if_neg (by omega)]
      exact .bad
    · rw [if_neg h8, if_pos (by omega)]
      exact .tok (t := .word _) (fun z => nomatch z) ⟨rfl, by omega, by rw [List.takeWhile_cons_of_pos e3, List.length_cons]; omega, fun x hx => by
        have := tw_all isLetter _ x hx
        simp [isLetter] at this
        omega⟩ h
  · by_cases e4 : isDigit c = true
    · have e : tkAt i (c :: t) = ⟨if ((c :: t).takeWhile isDigit).length ≤ 3 ∧ (((c :: t).takeWhile isDigit).length = 1 ∨ c ≠ 48) then 2 else 4, i, (c :: t).takeWhile isDigit⟩ := by
        unfold tkAt
        simp only []
        rw [if_neg e3, if_pos e4]
      have hp : 1 ≤ ((c :: t).takeWhile isDigit).length := by
        rw [List.takeWhile_cons_of_pos e4, List.length_cons]
        omega
      rw [e] at h ⊢
      rw [tz_num e4]
      by_cases h8 : 3 < ((c :: t).takeWhile isDigit).length ∨ (1 < ((c :: t).takeWhile isDigit).length ∧ c = 48)
      · rw [if_pos h8, if_neg (by omega)]
        exact .bad
      · rw [if_neg h8, if_pos (by omega)]
        refine .tok (t := .number _) (fun z => nomatch z) ⟨rfl, fun x hx => ?_, by omega⟩ h
        have := tw_all isDigit _ x hx
        simpa [isDigit] using this
    · have e : tkAt i (c :: t) = ⟨if c = 59 then 3 else 4, i, [c]⟩ := by
        unfold tkAt
        simp only []
        rw [if_neg e3, if_neg e4]
      rw [e] at h ⊢
      by_cases e2 : c = 59
      · subst e2
        rw [tz_semi, if_pos rfl]
        exact .tok (t := .semicolon) (fun z => nomatch z) trivial h
      · rw [tz_bad h1 e2 e3 e4, if_neg e2]
        exact .bad
def kindL : Tokens → Nat
  | [] => 5
  | (_, t) :: _ => kindOf t
theorem tr_head {n : Nat} {l : Tokens} {r : List Tk} (h : TR n l r) : ∃ k s, r = k :: s ∧ k.kind = kindL l ∧ k.off = currentOffset n l := by
  cases h with
  | fin => exact ⟨_, _, rfl, rfl, rfl⟩
  | bad => exact ⟨_, _, rfl, rfl, rfl⟩
  | tok h s q => exact ⟨_, _, rfl, rfl, rfl⟩
theorem dec_small {w : List Nat} (h : ∀ c ∈ w, 48 ≤ c ∧ c ≤ 57) (hl : w.length ≤ 3) : decimalValue w < 1000 := by
  unfold decimalValue
  match w, h, hl with
  | [], _, _ => decide
  | [a], h, _ =>
    have := h a (by simp)
    simp only [List.foldl_cons, List.foldl_nil]
    omega
  | [a, b], h, _ =>
    have := h a (by simp)
    have := h b (by simp)
    simp only [List.foldl_cons, List.foldl_nil]
    omega
  | [a, b, c], h, _ =>
    have := h a (by simp)
    have := h b (by simp)
    have := h c (by simp)
    simp only [List.foldl_cons, List.foldl_nil]
    omega
  | _ :: _ :: _ :: _ :: _, _, hl => simp at hl
end Cm
namespace Cm
open Vbndal
/-- a card behind those that are read -/
def cardStep (n p : Nat) (m : List Nat) (l : Tokens) : Except ParseError (Nat × Tokens) := match parseNumber n (isCard p) l with
  | .error e => .error e
  | .ok ((i, x), r) => if m.contains x = true ∨ maxCards ≤ m.length then .error ⟨3, i⟩ else .ok (x, r)
/-- the cards of a deck, up to what isn't one -/
def dk (n p : Nat) : Nat → List Nat → Tokens → Except ParseError (List Nat × Tokens)
  | 0, m, l => .ok (m, l)
  | f + 1, m, l => if m.length < 2 ∨ kindL l = 2 then (match cardStep n p m l with
    | .error e => .error e
    | .ok (x, r) => dk n p f (m ++ [x]) r) else .ok (m, l)
theorem dk_err {n p f : Nat} {m : List Nat} {l : Tokens} {e : ParseError} (z : m.length < 2 ∨ kindL l = 2) (h : cardStep n p m l = .error e) : dk n p (f + 1) m l = .error e := by
  unfold dk
  rw [if_pos z, h]
theorem dk_ok {n p f x : Nat} {m : List Nat} {l r : Tokens} (z : m.length < 2 ∨ kindL l = 2) (h : cardStep n p m l = .ok (x, r)) : dk n p (f + 1) m l = dk n p f (m ++ [x]) r := by
  conv => lhs; unfold dk
  rw [if_pos z, h]
theorem dk_stop {n p f : Nat} {m : List Nat} {l : Tokens} (z : ¬ (m.length < 2 ∨ kindL l = 2)) : dk n p (f + 1) m l = .ok (m, l) := by
  unfold dk
  rw [if_neg z]
theorem card_num {n p i x : Nat} {m : List Nat} {l : Tokens} : cardStep n p m ((i, .number x) :: l) = if isCard p x = true then (if m.contains x = true ∨ maxCards ≤ m.length then .error ⟨3, i⟩ else .ok (x, l)) else .error ⟨4, i⟩ := by
  unfold cardStep parseNumber
  by_cases hc : isCard p x = true
  · simp only [hc, if_true]
  · simp only [hc]
    rfl
theorem pn_ok {n i x : Nat} {ok : Nat → Bool} {l r : Tokens} (h : parseNumber n ok l = .ok ((i, x), r)) : l = (i, .number x) :: r ∧ ok x = true := by
  unfold parseNumber at h
  split at h
  · split at h
    · cases h
      exact ⟨rfl, by assumption⟩
    · cases h
  · cases h
theorem pn_no {n : Nat} {ok : Nat → Bool} {l : Tokens} (h : kindL l ≠ 2) : parseNumber n ok l = .error ⟨1, currentOffset n l⟩ := by
  unfold parseNumber
  split
  · exact absurd rfl h
  · rfl
theorem kind_num {l : Tokens} (h : kindL l = 2) : ∃ i x r, l = (i, .number x) :: r := by
  match l, h with
  | (i, .number x) :: r, _ => exact ⟨i, x, r, rfl⟩
theorem kind_word {l : Tokens} (h : kindL l = 1) : ∃ i x r, l = (i, .word x) :: r := by
  match l, h with
  | (i, .word x) :: r, _ => exact ⟨i, x, r, rfl⟩
theorem kind_semi {l : Tokens} (h : kindL l = 3) : ∃ i r, l = (i, .semicolon) :: r := by
  match l, h with
  | (i, .semicolon) :: r, _ => exact ⟨i, r, rfl⟩
theorem kind_end {l : Tokens} : kindL l = 5 ↔ l = [] := by
  match l with
  | [] => exact ⟨fun _ => rfl, fun _ => rfl⟩
  | (i, t) :: r =>
    constructor
    · intro h
      cases t <;> simp [kindL, kindOf] at h
    · intro h
      cases h
theorem ex_semi {n : Nat} {l : Tokens} : expect n .semicolon l = if kindL l = 3 then .ok (l.drop 1) else .error ⟨1, currentOffset n l⟩ := by
  match l with
  | [] => rfl
  | (i, .semicolon) :: r => rfl
  | (i, .word _) :: r => rfl
  | (i, .number _) :: r => rfl
  | (i, .invalid) :: r => rfl
theorem ex_word {n i : Nat} {s : String} {w : Bytes} {r : Tokens} : expectWord n s ((i, .word w) :: r) = if w = toBytes s then .ok r else .error ⟨1, i⟩ := by
  unfold expectWord expect nextIs
  by_cases h : w = toBytes s
  · rw [if_pos h, h]
    simp
  · rw [if_neg h, if_neg]
    · rfl
    · simp [h]
theorem ex_noword {n : Nat} {s : String} {l : Tokens} (h : kindL l ≠ 1) : expectWord n s l = .error ⟨1, currentOffset n l⟩ := by
  match l, h with
  | [], _ => rfl
  | (i, .semicolon) :: r, _ => rfl
  | (i, .number _) :: r, _ => rfl
  | (i, .invalid) :: r, _ => rfl
theorem next_semi {l : Tokens} : nextIs .semicolon l = decide (kindL l = 3) := by
  match l with
  | [] => rfl
  | (i, .semicolon) :: r => rfl
  | (i, .word _) :: r => rfl
  | (i, .number _) :: r => rfl
  | (i, .invalid) :: r => rfl
theorem card_ok {n p x : Nat} {m : List Nat} {l r : Tokens} (h : cardStep n p m l = .ok (x, r)) : (∃ i, l = (i, .number x) :: r) ∧ isCard p x = true ∧ x ∉ m ∧ m.length < 10 := by
  unfold cardStep at h
  split at h
  · cases h
  · rename_i i y r' e
    obtain ⟨e1, e2⟩ := pn_ok e
    split at h
    · cases h
    · rename_i hc
      cases h
      refine ⟨⟨i, e1⟩, e2, fun z => hc (.inl (List.contains_iff_mem.mpr z)), ?_⟩
      have : maxCards = 10 := rfl
      omega
theorem pc_dk {n p : Nat} : ∀ (f : Nat) (m : List Nat) (l : Tokens), l.length < f → parseCards n p f m l = (match dk n p f m l with
    | .error e => .error e
    | .ok (m', l') => match expect n .semicolon l' with
      | .error e => .error e
      | .ok r => .ok (m', r))
  | 0, m, l, h => absurd h (Nat.not_lt_zero _)
  | f + 1, m, l, h => by
    unfold parseCards dk
    rw [next_semi]
    by_cases h3 : kindL l = 3 ∧ 2 ≤ m.length
    · rw [if_pos ⟨decide_eq_true h3.1, h3.2⟩, if_neg (by omega)]
      simp only []
      rw [ex_semi, if_pos h3.1]
    · rw [if_neg (fun z => h3 ⟨of_decide_eq_true z.1, z.2⟩)]
      by_cases h4 : m.length < 2 ∨ kindL l = 2
      · rw [if_pos h4]
        cases e : parseNumber n (isCard p) l with
        | error x =>
          have e2 : cardStep n p m l = .error x := by
            unfold cardStep
            rw [e]
          rw [e2]
          rfl
        | ok x =>
          obtain ⟨⟨i, y⟩, r⟩ := x
          have e2 : cardStep n p m l = if m.contains y = true ∨ maxCards ≤ m.length then .error ⟨3, i⟩ else .ok (y, r) := by
            unfold cardStep
            rw [e]
          rw [e2]
          have e3 := (pn_ok e).1
          show (if m.contains y = true ∨ maxCards ≤ m.length then Except.error ⟨3, i⟩ else parseCards n p f (m ++ [y]) r) = _
          by_cases h5 : m.contains y = true ∨ maxCards ≤ m.length
          · rw [if_pos h5, if_pos h5]
          · rw [if_neg h5, if_neg h5]
            exact pc_dk f _ _ (by rw [e3] at h; simpa using h)
      · rw [if_neg h4]
        simp only []
        rw [ex_semi, if_neg (by omega), pn_no (by omega)]
        rfl
/-- the name of a player behind those that are read -/
def nameStep (n : Nat) (m : List Player) (l : Tokens) : Except ParseError (Bytes × Tokens) := match parseName n l with
  | .error e => .error e
  | .ok ((i, w), r) => if (m.any fun x => x.name == w) = true ∨ maxPlayers ≤ m.length then .error ⟨3, i⟩ else .ok (w, r)
/-- a player behind those that are read -/
def plStep (n p : Nat) (m : List Player) (l : Tokens) : Except ParseError (Player × Tokens) := match expectWord n "player" l with
  | .error e => .error e
  | .ok l1 => match nameStep n m l1 with
    | .error e => .error e
    | .ok (w, l2) => match expectWord n "key" l2 with
      | .error e => .error e
      | .ok l3 => match parseNumber n (isKey p) l3 with
        | .error e => .error e
        | .ok ((_, k), l4) => match expect n .semicolon l4 with
          | .error e => .error e
          | .ok l5 => .ok (⟨w, k⟩, l5)
theorem name_no {n : Nat} {l : Tokens} (h : kindL l ≠ 1) : parseName n l = .error ⟨1, currentOffset n l⟩ := by
  unfold parseName
  split
  · exact absurd rfl h
  · rfl
theorem name_word {n i : Nat} {w : Bytes} {m : List Player} {l : Tokens} : nameStep n m ((i, .word w) :: l) = if keywords.contains w = true then .error ⟨1, i⟩ else if (m.any fun x => x.name == w) = true ∨ maxPlayers ≤ m.length then .error ⟨3, i⟩ else .ok (w, l) := by
  unfold nameStep parseName
  by_cases hc : keywords.contains w = true
  · simp only [hc, if_true]
  · simp only [hc]
    rfl
theorem pp_step {n p f : Nat} {m : List Player} {l : Tokens} : parsePlayers n p (f + 1) m l = if kindL l = 5 then .ok m else (match plStep n p m l with
    | .error e => .error e
    | .ok (y, r) => parsePlayers n p f (m ++ [y]) r) := by
  conv => lhs; unfold parsePlayers
  by_cases h : l.isEmpty = true
  · rw [if_pos h, if_pos (kind_end.mpr (List.isEmpty_iff.mp h))]
  · rw [if_neg h, if_neg (fun z => h (List.isEmpty_iff.mpr (kind_end.mp z)))]
    unfold plStep
    cases e1 : expectWord n "player" l with
    | error e => rfl
    | ok l1 =>
      simp only []
      unfold nameStep
      show (parseName n l1 >>= _) = _
      cases e2 : parseName n l1 with
      | error e => rfl
      | ok x =>
        obtain ⟨⟨i, w⟩, l2⟩ := x
        simp only []
        by_cases h5 : (m.any fun x => x.name == w) = true ∨ maxPlayers ≤ m.length
        · rw [if_pos h5]
          show (if (m.any fun x => x.name == w) = true ∨ maxPlayers ≤ m.length then Except.error (ParseError.mk 3 i) else _) = _
          rw [if_pos h5]
        · rw [if_neg h5]
          show (if (m.any fun x => x.name == w) = true ∨ maxPlayers ≤ m.length then Except.error (ParseError.mk 3 i) else _) = _
          rw [if_neg h5]
          simp only []
          cases e3 : expectWord n "key" l2 with
          | error e => rfl
          | ok l3 =>
            show (parseNumber n (isKey p) l3 >>= _) = _
            simp only []
            cases e4 : parseNumber n (isKey p) l3 with
            | error e => rfl
            | ok x =>
              obtain ⟨⟨j, k⟩, l4⟩ := x
              simp only []
              show (expect n .semicolon l4 >>= _) = _
              cases e5 : expect n .semicolon l4 with
              | error e => rfl
              | ok l5 => rfl
theorem ew_ok {n : Nat} {s : String} {l r : Tokens} (h : expectWord n s l = .ok r) : ∃ i w, l = (i, .word w) :: r := by
  by_cases k : kindL l = 1
  · obtain ⟨i, w, l', rfl⟩ := kind_word k
    rw [ex_word] at h
    split at h
    · cases h
      exact ⟨i, w, rfl⟩
    · cases h
  · rw [ex_noword k] at h
    cases h
theorem es_ok {n : Nat} {l r : Tokens} (h : expect n .semicolon l = .ok r) : ∃ i, l = (i, .semicolon) :: r := by
  rw [ex_semi] at h
  split at h
  · rename_i k
    obtain ⟨i, l', rfl⟩ := kind_semi k
    cases h
    exact ⟨i, rfl⟩
  · cases h
theorem name_ok {n : Nat} {m : List Player} {l r : Tokens} {w : Bytes} (h : nameStep n m l = .ok (w, r)) : (∃ i, l = (i, .word w) :: r) ∧ m.length < 4 := by
  unfold nameStep at h
  split at h
  · cases h
  · rename_i i y r' e
    unfold parseName at e
    split at e
    · split at e
      · cases e
      · cases e
        split at h
        · cases h
        · rename_i hc
          cases h
          refine ⟨⟨i, rfl⟩, ?_⟩
          have : maxPlayers = 4 := rfl
          omega
    · cases e
theorem pl_ok {n p : Nat} {m : List Player} {l r : Tokens} {y : Player} (h : plStep n p m l = .ok (y, r)) : r.length < l.length ∧ m.length < 4 ∧ isKey p y.key = true := by
  unfold plStep at h
  split at h
  · cases h
  · rename_i l1 e1
    obtain ⟨i1, w1, rfl⟩ := ew_ok e1
    split at h
    · cases h
    · rename_i w l2 e2
      obtain ⟨⟨i2, rfl⟩, hm⟩ := name_ok e2
      split at h
      · cases h
      · rename_i l3 e3
        obtain ⟨i3, w3, rfl⟩ := ew_ok e3
        split at h
        · cases h
        · rename_i i4 k l4 e4
          obtain ⟨rfl, hk⟩ := pn_ok e4
          split at h
          · cases h
          · rename_i l5 e5
            obtain ⟨i5, rfl⟩ := es_ok e5
            cases h
            refine ⟨?_, hm, hk⟩
            simp only [List.length_cons]
            omega
/-- a table's text, in the order in which it's read -/
def tbStep (t : Bytes) : Except ParseError Table := match expectWord t.length "prime" (TZ 0 t) with
  | .error e => .error e
  | .ok l1 => match parseNumber t.length okP l1 with
    | .error e => .error e
    | .ok ((_, p), l2) => match expect t.length .semicolon l2 with
      | .error e => .error e
      | .ok l3 => match expectWord t.length "deck" l3 with
        | .error e => .error e
        | .ok l4 => match dk t.length p (l4.length + 1) [] l4 with
          | .error e => .error e
          | .ok (m, l5) => match expect t.length .semicolon l5 with
            | .error e => .error e
            | .ok l6 => match parsePlayers t.length p (l6.length + 1) [] l6 with
              | .error e => .error e
              | .ok ys => .ok ⟨p, m, ys⟩
theorem tb_eq (t : Bytes) : parseTable t = tbStep t := by
  unfold tbStep parseTable
  show (expectWord t.length "prime" (TZ 0 t) >>= _) = _
  cases e1 : expectWord t.length "prime" (TZ 0 t) with
  | error e => rfl
  | ok l1 =>
    simp only []
    show (parseNumber t.length okP l1 >>= _) = _
    cases e2 : parseNumber t.length okP l1 with
    | error e => rfl
    | ok x =>
      obtain ⟨⟨i, p⟩, l2⟩ := x
      simp only []
      show (expect t.length .semicolon l2 >>= _) = _
      cases e3 : expect t.length .semicolon l2 with
      | error e => rfl
      | ok l3 =>
        simp only []
        show (expectWord t.length "deck" l3 >>= _) = _
        cases e4 : expectWord t.length "deck" l3 with
        | error e => rfl
        | ok l4 =>
          simp only []
          show (parseCards t.length p (l4.length + 1) [] l4 >>= _) = _
          rw [pc_dk _ _ _ (Nat.lt_succ_self _)]
          cases e5 : dk t.length p (l4.length + 1) [] l4 with
          | error e => rfl
          | ok x =>
            obtain ⟨m, l5⟩ := x
            simp only []
            cases e6 : expect t.length .semicolon l5 with
            | error e => rfl
            | ok l6 =>
              simp only []
              show (parsePlayers t.length p (l6.length + 1) [] l6 >>= _) = _
              cases e7 : parsePlayers t.length p (l6.length + 1) [] l6 with
              | error e => rfl
              | ok ys => rfl
end Cm
namespace Cm
open Vbndal
theorem dec_len : ∀ n, n < 1000 → (decimalBytes n).length ≤ 3 := by decide +kernel
theorem pl_player (w k : Bytes) : printLine [toBytes "player", w, toBytes "key", k] = (((toBytes "player " ++ w) ++ [32]) ++ printLine [toBytes "key", k]) := by
  have e : toBytes "player " = toBytes "player" ++ [32] := by decide
  rw [e]
  simp [printLine]
theorem foldl_len : ∀ (r : List Bytes) (x : Bytes), (∀ y ∈ r, y.length ≤ 100) → (r.foldl (fun a y => a ++ (32 :: y)) x).length ≤ x.length + 101 * r.length
  | [], x, _ => Nat.le_refl _
  | y :: r, x, h => by
    have := foldl_len r (x ++ (32 :: y)) fun z hz => h z (List.mem_cons_of_mem _ hz)
    have h1 := h y (List.mem_cons_self ..)
    rw [List.foldl_cons, List.length_cons]
    rw [List.length_append, List.length_cons] at this
    omega
theorem line_len {l : List Bytes} (h : ∀ y ∈ l, y.length ≤ 100) : (printLine l).length ≤ 101 * l.length + 2 := by
  unfold printLine
  match l, h with
  | [], _ => decide
  | x :: r, h =>
    have := foldl_len r x fun z hz => h z (List.mem_cons_of_mem _ hz)
    have h1 := h x (List.mem_cons_self ..)
    simp only [List.length_append, List.length_cons, List.length_nil]
    omega
end Cm
namespace Cm
open Vbndal
def part {α : Type} (n i : Nat) (l : List α) : List α := (l.drop (n * i)).take n
theorem part_succ {α : Type} (n i : Nat) (l : List α) : part n i (l.drop n) = part n (i + 1) l := by
  unfold part
  rw [List.drop_drop, Nat.mul_succ, Nat.add_comm]
theorem part_zero {α : Type} (n : Nat) (l : List α) : part n 0 l = l.take n := by
  unfold part
  rw [Nat.mul_zero, List.drop_zero]
theorem split_eq (n : Nat) : ∀ (m : Nat) (l : List Nat), splitLists n m l = (List.range m).map fun i => part n i l
  | 0, l => rfl
  | m + 1, l => by
    unfold splitLists
    rw [split_eq n m, List.range_succ_eq_map, List.map_cons, List.map_map, part_zero]
    congr 1
    refine List.map_congr_left fun i _ => ?_
    exact part_succ n i l
theorem decode_some {n : Nat} : ∀ (m : Nat) (l : List Int), l.length = n * m → (∀ i < m, isOrderArgument n (part n i l) = true) → decodeOrders n m l = some ((List.range m).map fun i => toNats (part n i l))
  | 0, l, h, _ => by
    have : l = [] := List.eq_nil_of_length_eq_zero (by omega)
    subst this
    rfl
  | m + 1, l, h, ho => by
    unfold decodeOrders
    have h0 := ho 0 (Nat.succ_pos _)
    rw [part_zero] at h0
    rw [if_pos h0, decode_some m (l.drop n) (by rw [List.length_drop, h, Nat.mul_succ]; omega) fun i hi => by
      rw [part_succ]
      exact ho (i + 1) (by omega)]
    rw [List.range_succ_eq_map, List.map_cons, List.map_map, part_zero]
    show some _ = some _
    congr 2
    refine List.map_congr_left fun i _ => ?_
    exact congrArg toNats (part_succ n i l)
theorem order_len {n : Nat} {l : List Int} (h : isOrderArgument n l = true) : l.length = n := by
  unfold isOrderArgument at h
  rw [Bool.and_eq_true, isOrder_iff] at h
  have := h.2.1
  unfold toNats at this
  rwa [List.length_map] at this
theorem decode_none {n : Nat} : ∀ (m : Nat) (l : List Int), ¬ (l.length = n * m ∧ ∀ i < m, isOrderArgument n (part n i l) = true) → decodeOrders n m l = none
  | 0, l, h => by
    unfold decodeOrders
    rw [if_neg]
    intro z
    rw [List.isEmpty_iff] at z
    subst z
    exact h ⟨by simp, fun i hi => absurd hi (Nat.not_lt_zero _)⟩
  | m + 1, l, h => by
    unfold decodeOrders
    by_cases h0 : isOrderArgument n (l.take n) = true
    · rw [if_pos h0]
      have hl := order_len h0
      rw [List.length_take] at hl
      rw [decode_none m (l.drop n) fun z => h ⟨?_, fun i hi => ?_⟩]
      · rfl
      · have := z.1
        rw [List.length_drop] at this
        rw [Nat.mul_succ]
        omega
      · cases i with
        | zero =>
          rw [part_zero]
          exact h0
        | succ i =>
          rw [← part_succ]
          exact z.2 i (by omega)
    · rw [if_neg h0]
/-- an audit of an opening, a turn more -/
theorem ao_yes {p i x k y : Nat} {r : List (Nat × Nat)} (h : lockCard p y k = x) : auditOpening p i x ((k, y) :: r) = auditOpening p (i + 1) y r := by
  have e : locksTo p y x k = true := by
    unfold locksTo
    exact beq_iff_eq.mpr h
  conv => lhs; unfold auditOpening
  rw [if_pos e]
theorem ao_no {p i x k y : Nat} {r : List (Nat × Nat)} (h : lockCard p y k ≠ x) : auditOpening p i x ((k, y) :: r) = .wrong i := by
  have e : ¬ locksTo p y x k = true := by
    unfold locksTo
    exact fun z => h (beq_iff_eq.mp z)
  unfold auditOpening
  rw [if_neg e]
/-- an audit of a deal behind turns that were right -/
def glue (acc : List (List Nat)) : DealAudit → DealAudit
  | .valid ms => .valid (acc ++ ms)
  | .wrong i e => .wrong i e
theorem ad_yes {p i k : Nat} {l r m : List Nat} {rest : List (Nat × List Nat)} {acc : List (List Nat)} (h : orderFor p l r k = some m) : glue acc (auditDeal p i l ((k, r) :: rest)) = glue (acc ++ [m]) (auditDeal p (i + 1) r rest) := by
  have e : auditDeal p i l ((k, r) :: rest) = match auditDeal p (i + 1) r rest with
      | .valid ms => .valid (m :: ms)
      | .wrong j e => .wrong j e := by
    conv => lhs; unfold auditDeal
    rw [h]
    rfl
  rw [e]
  cases auditDeal p (i + 1) r rest with
  | valid ms => simp [glue]
  | wrong j e => rfl
theorem ad_no {p i k : Nat} {l r : List Nat} {rest : List (Nat × List Nat)} {acc : List (List Nat)} (h : orderFor p l r k = none) : glue acc (auditDeal p i l ((k, r) :: rest)) = .wrong i (errorCount p l r k) := by
  have e : auditDeal p i l ((k, r) :: rest) = .wrong i (errorCount p l r k) := by
    unfold auditDeal
    rw [h]
  rw [e]
  rfl
/-- what matches a row without repetition has none either -/
theorem order_perm {p k : Nat} {l r m : List Nat} (hn : (lockRow p k l).Nodup) (hl : r.length = l.length) (h : orderFor p l r k = some m) : (lockRow p k l).Perm r := by
  by_cases z : (lockRow p k l).Perm r
  · exact z
  · rw [order_no hn hl z] at h
    cases h
/-- the places that shown keys open, one by one -/
def place (p : Nat) (l r : List Nat) (s : ShownKey) : Option Nat := l.findIdx? fun x => lockCard p x s.key == r.getD s.position 0
theorem oc_none {p : Nat} {l r : List Nat} : ∀ {ss : List ShownKey}, (∃ s ∈ ss, place p l r s = none) → openedCards p l r ss = none
  | [], ⟨s, h, _⟩ => absurd h List.not_mem_nil
  | s :: ss, ⟨x, h, e⟩ => by
    unfold openedCards
    rcases List.mem_cons.mp h with rfl | h
    · unfold place at e
      rw [e]
    · split
      · rfl
      · rw [oc_none ⟨x, h, e⟩]
        rfl
theorem oc_some {p : Nat} {l r : List Nat} : ∀ {ss : List ShownKey} {o : List Nat}, ss.map (place p l r) = o.map some → openedCards p l r ss = some o
  | [], [], _ => rfl
  | [], _ :: _, h => by simp at h
  | _ :: _, [], h => by simp at h
  | s :: ss, x :: o, h => by
    rw [List.map_cons, List.map_cons, List.cons.injEq] at h
    unfold openedCards
    have e := h.1
    unfold place at e
    rw [e]
    simp only []
    rw [oc_some h.2]
    rfl
theorem all_some : ∀ l : List (Option Nat), (∀ x ∈ l, x ≠ none) → ∃ o : List Nat, l = o.map some
  | [], _ => ⟨[], rfl⟩
  | none :: l, h => absurd rfl (h none (List.mem_cons_self ..))
  | some x :: l, h => by
    obtain ⟨o, ho⟩ := all_some l fun y hy => h y (List.mem_cons_of_mem _ hy)
    exact ⟨x :: o, by rw [ho]; rfl⟩
end Cm
set_option Elab.async false
set_option linter.all false
set_option maxRecDepth 100000
set_option maxHeartbeats 4000000
namespace Cl
open PySem PySem.Spec PyProof.Rows L2
/-! ### try with several clauses, each of which gives the error a name
A caught error at rest: Rest says what is known of it between the clauses; one lemma a step. -/
/-- behind a clause its name is gone -/
def less (D : Ends) (i : Nat) : Ends where
  nx σ H := D.nx (σ.set i none) H
  rt := D.rt
  bk σ H := D.bk (σ.set i none) H
  ct σ H := D.ct (σ.set i none) H
/-- a clause: the class, the slot of its name, its suite's reading -/
abbrev Clause := Value × Nat × (Addr → Value → Option Addr → TS)
def wMA (K : PySem.W.Frag) (D : Ends) : List Clause → WX
  | [] => fun _ _ _ _ => False
  | k :: ks => fun cls d σ H =>
    (PySem.W.exmOne K cls k.1 = some true ∧ ∀ a, H a = none → k.2.2 a cls d (less D k.2.1) (σ.set k.2.1 (some (.ref a))) H) ∨ (PySem.W.exmOne K cls k.1 = some false ∧ wMA K D ks cls d σ H)
/-- the clauses of the text, and what is read of them -/
inductive HdsA (X : Cx) : List ExceptHandler → List Clause → Prop
  | nil : HdsA X [] []
  | cons {x n : Str} {c : Value} {i : Nat} {ts : Addr → Value → Option Addr → TS} {b0 : Stmt} {suite : List Stmt} {p1 p2 : Pos} {hds : List ExceptHandler} {ks : List Clause} (slot : X.N[i]? = some n) (loc : X.env.kindOf n = some .local) (nm : Names X x c)
    (su : ∀ (a : Addr) (ob : Obj) (cls : Value) (d : Option Addr) (pn : List (Addr × Obj)), Zc cls d ob → (∃ vs, ob.data = .fields vs) → PSs (X.suite a ((a, ob) :: pn)) (b0 :: suite) (ts a cls d)) (r : HdsA X hds ks) :
    HdsA X (.ExceptHandler (some (.Name x p1)) (some n) (b0 :: suite) p2 :: hds) ((c, i, ts) :: ks)
structure Rest (X : Cx) (pins : List (Addr × Obj)) (B : Heap) (s0 : Shared) (a : Addr) (cls : Value) (d : Option Addr) (σ : L2.St) (H : Hp) (s : Shared) : Prop where
  own : Inv X pins σ H s0
  ground : ∀ b o, s0.heap.get? b = some o → b ∉ frs X.stack → B.get? b = some o
  fly : HandSPX.FlyingZ B (X.env :: X.outer) a (Zc cls d) s.heap
  grown : s0.heap.UpToSlots s.heap
  unseen : H a = none
  os : s.os = s0.os
  bare : AllBare s.gens
section
variable {X : Cx} {pins : List (Addr × Obj)} {B : Heap} {s0 s : Shared} {a : Addr} {cls : Value} {d : Option Addr} {σ : L2.St} {H : Hp} {D : Ends}
theorem Rest.inv (r : Rest X pins B s0 a cls d σ H s) : Inv X pins σ H s := Inv.landed r.own r.ground r.fly.1 r.grown r.os r.bare
/-- no frame is the error -/
theorem Rest.away (r : Rest X pins B s0 a cls d σ H s) : a ∉ frs (X.env :: X.outer) := by
  intro isFrame
  have ⟨_, _, atA, _, fieldsA⟩ := r.fly.there
  have ⟨_, _, atF, noFields⟩ := r.fly.2.2.1.mem isFrame
  rw [atA] at atF
  cases atF
  exact noFields _ fieldsA
theorem Rest.apart (r : Rest X pins B s0 a cls d σ H s) (hf : X.env.frame = some X.env.locals) : a ≠ X.env.locals ∧ a ∉ X.fs := by
  have w := r.away
  unfold frs at w
  rw [List.filterMap_cons_some hf, List.mem_cons] at w
  exact ⟨fun e => w (.inl e), fun m => w (.inr m)⟩
/-- the suite of a clause may begin -/
theorem Rest.within (r : Rest X pins B s0 a cls d σ H s) (hf : X.env.frame = some X.env.locals) : ∃ ob, s.heap.get? a = some ob ∧ Zc cls d ob ∧ (∃ vs, ob.data = .fields vs) ∧ Inv (X.suite a ((a, ob) :: (X.pn ++ pins))) [] σ H s := by
  have ⟨ob, vs, atA, z, fieldsA⟩ := r.fly.there
  have ⟨w1, w2⟩ := r.apart hf
  exact ⟨ob, atA, z, ⟨vs, fieldsA⟩, r.inv.suite atA fieldsA r.unseen w1 w2⟩
/-- its flight is put out once more -/
theorem Rest.again {A : Around} {E : Value → Shared → Prop} {Q : Unit → Shared → Prop} (r : Rest X pins B s0 a cls d σ H s) (q : ∀ s', Rest X pins B s0 a cls d σ H s' → Q () s') : wpAny (model X.prog X.w) A (setFlight (.ref a) none) Q E s :=
  HandSPX.lands_againZ r.fly fun hp fl g => q _ ⟨r.own, r.ground, fl, r.grown.trans g, r.unseen, r.os, r.bare⟩
/-- the class that a clause names is read -/
theorem Rest.named {x : Str} {c : Value} {p : Pos} {Q E : Value → Shared → Prop} (r : Rest X pins B s0 a cls d σ H s) (hf : X.env.frame = some X.env.locals) (nm : Names X x c) (q : Q c s) : wpAny (model X.prog X.w) (X.A.mark (some (.ref a))) (eval (.Name x p) X.env) Q E s := by
  have ⟨ob, _, _, _, J⟩ := r.within hf
  rcases nm with ⟨g, g2, one | ⟨two, three, four⟩⟩
  · exact ld_glob J g one q g2
  · exact ld_blt J g two three q four g2
/-- whether it is of that class is told -/
theorem Rest.told {c : Value} {b : Bool} {A : Around} {Q : Bool → Shared → Prop} {E : Value → Shared → Prop} (r : Rest X pins B s0 a cls d σ H s) (hx : PySem.W.exmOne X.K cls c = some b) (q : Q b s) : wpAny (model X.prog X.w) A (excMatches (.ref a) c) Q E s := by
  have ⟨ob, _, atA, z, _⟩ := r.fly.there
  refine (PySem.W.exm_one r.inv.kIn ?_ hx).here q
  intro A' Q' E' s' kept q'
  rw [← z.1] at q'
  exact wpAny_typeOf_ref (kept a ob atA) q'
/-- behind a suite: the name goes -/
theorem leave {n : Str} {i : Nat} {p : Pos} {ob : Obj} {fl : Flow} (ok : X.Ok) (hN : X.N.Nodup) (slot : X.N[i]? = some n) (loc : X.env.kindOf n = some .local) (z : SP (X.suite a ((a, ob) :: (X.pn ++ pins))) [] (less D i) fl s) :
    wpAny (model X.prog X.w) X.A (do bindName X.env n .none; unbindBehindTheSuite X.env n p) (fun _ s' => SP X pins D fl s') X.xe s := by
  cases fl with
  | ret u =>
    rcases z with ⟨v, τ, G, J, rel, w⟩
    exact gone_ok (J.unsuite ok) hN slot loc fun _ J' => ⟨v, _, G, J', rel, w⟩
  | next =>
    rcases z with ⟨τ, G, J, w⟩
    exact gone_ok (J.unsuite ok) hN slot loc fun _ J' => ⟨_, G, J', w⟩
  | brk =>
    rcases z with ⟨τ, G, J, w⟩
    exact gone_ok (J.unsuite ok) hN slot loc fun _ J' => ⟨_, G, J', w⟩
  | cont =>
    rcases z with ⟨τ, G, J, w⟩
    exact gone_ok (J.unsuite ok) hN slot loc fun _ J' => ⟨_, G, J', w⟩
/-- the clauses, one behind another -/
theorem Rest.clauses (hf : X.env.frame = some X.env.locals) (hN : X.N.Nodup) {hds : List ExceptHandler} {ks : List Clause} (h : HdsA X hds ks) : Rest X pins B s0 a cls d σ H s → wMA X.K D ks cls d σ H → wpAny (model X.prog X.w) X.A (handleBy (.ref a) X.env hds) (SP X pins D) X.xe s := by
  induction h with
  | nil => exact fun _ w => w.elim
  | cons slot loc nm su _ ih =>
    intro r w
    refine wpAny_handleBy_cons (codeAny_handlers_test (r.named hf nm ?_)) (fun z => by cases z)
    rcases w with ⟨yes, go⟩ | ⟨no, on⟩
    · refine r.told yes (codeAny_handlers_suite_as (r.again fun s2 r2 => ?_))
      have ⟨ob, _, z, fieldsA, J⟩ := r2.within hf
      refine store_ok (X := X.suite a _) (v := .ref a) J hN slot (.inl loc) rfl (fun s3 J3 => ?_) (.inr loc)
      have run := (su a ob cls d _ z fieldsA).run [] s3 _ H _ J3 (go a r.unseen)
      exact wpAny_mono run (fun fl s4 z4 => leave r.own.ok hN slot loc z4) fun _ _ none => none.elim
    · exact r.told no (ih r on)
theorem ps_try_ma {body : List Stmt} {h0 : ExceptHandler} {hds : List ExceptHandler} {ks : List Clause} {pos : Pos} {tb : WX → TS} (hs : X.stack = X.env :: X.outer) (hf : X.env.frame = some X.env.locals) (hN : X.N.Nodup)
    (hb : ∀ (W : WX) (pn : List (Addr × Obj)) (xe : Value → Shared → Prop), Takes (X.tr pn xe) W → PassesOwn (model X.prog X.w) X.A X.env xe → PSs (X.tr pn xe) body (tb W)) (hh : HdsA X (h0 :: hds) ks) :
    PS X (.Try body (h0 :: hds) [] [] pos) (fun D σ H => tb (wMA X.K D ks) D σ H) := by
  constructor
  intro pins s σ H D I wish
  refine wpAny_Try_except ?_
  have caught : Takes (X.tr (X.pn ++ pins) (fun e s1 => wpAny (model X.prog X.w) X.A (noteFrame e X.env) (fun _ s2 => wpAny (model X.prog X.w) X.A (setFlight e none) (fun _ s3 => wpAny (model X.prog X.w) X.A (handleBy e X.env (h0 :: hds)) (SP X pins D) X.xe s3) X.xe s2) X.xe s1)) (wMA X.K D ks) := by
    rintro _ s1 ⟨a, B, s0, pn0, σ1, H1, cls, d, rfl, I1, ground, grown, air, unseen, os, bare, w⟩
    have air : Sky B (X.env :: X.outer) a (Zc cls d) X.env.locals s1.heap := hs ▸ air
    refine Sky.land Zc.steady (I.ok.frames.trans (congrArg some hs)) hf air fun hp fl g => ?_
    exact Rest.clauses hf hN hh ⟨I1.ofTry I.ok, ground, fl, grown.trans g, unseen, os, bare⟩ w
  refine wpAny_mono ((hb _ _ _ caught PassesOwn.looking).run [] s σ H D (I.toTry _) wish) (fun fl s1 z => ?_) fun _ _ e => e
  cases fl with
  | next =>
    rcases z with ⟨τ, G, J, w⟩
    exact wpAny_execs_nil ⟨τ, G, J.ofTry I.ok, w⟩
  | ret u =>
    rcases z with ⟨v, τ, G, J, rel, w⟩
    exact ⟨v, τ, G, J.ofTry I.ok, rel, w⟩
  | brk =>
    rcases z with ⟨τ, G, J, w⟩
    exact ⟨τ, G, J.ofTry I.ok, w⟩
  | cont =>
    rcases z with ⟨τ, G, J, w⟩
    exact ⟨τ, G, J.ofTry I.ok, w⟩
end
end Cl
set_option Elab.async false
set_option linter.all false
set_option maxRecDepth 100000
set_option maxHeartbeats 4000000
/-! # Part 2: rules whose readings are told by tracked objects alone, in a form that simp can run -/
namespace Cl
open PySem PySem.Spec PyProof.Rows L2
/-! ### tracked lists of ints, of references, of texts -/
def IL (ns : List Int) : HO := .lst (ns.map V.int)
def RL (as : List Addr) : HO := .lst (as.map V.ref)
def SL (zs : List Str) : HO := .lst (zs.map V.str)
theorem int_inj : ∀ {a b : List Int}, a.map V.int = b.map V.int → a = b
  | [], [], _ => rfl
  | [], _ :: _, h => by simp at h
  | _ :: _, [], h => by simp at h
  | x :: a, y :: b, h => by
    rw [List.map_cons, List.map_cons] at h
    injection h with h1 h2
    injection h1 with h3
    rw [h3, int_inj h2]
theorem ref_inj : ∀ {a b : List Addr}, a.map V.ref = b.map V.ref → a = b
  | [], [], _ => rfl
  | [], _ :: _, h => by simp at h
  | _ :: _, [], h => by simp at h
  | x :: a, y :: b, h => by
    rw [List.map_cons, List.map_cons] at h
    injection h with h1 h2
    injection h1 with h3
    rw [h3, ref_inj h2]
theorem str_inj : ∀ {a b : List Str}, a.map V.str = b.map V.str → a = b
  | [], [], _ => rfl
  | [], _ :: _, h => by simp at h
  | _ :: _, [], h => by simp at h
  | x :: a, y :: b, h => by
    rw [List.map_cons, List.map_cons] at h
    injection h with h1 h2
    injection h1 with h3
    rw [h3, str_inj h2]
theorem il_inj {a b : List Int} : (IL a = IL b) = (a = b) := propext ⟨fun h => int_inj (HO.lst.inj h), fun h => by rw [h]⟩
theorem rl_inj {a b : List Addr} : (RL a = RL b) = (a = b) := propext ⟨fun h => ref_inj (HO.lst.inj h), fun h => by rw [h]⟩
theorem sl_inj {a b : List Str} : (SL a = SL b) = (a = b) := propext ⟨fun h => str_inj (HO.lst.inj h), fun h => by rw [h]⟩
theorem ins_inj {C D a b : Addr} {f g : List (Str × V)} : (HO.ins C a f = HO.ins D b g) = (C = D ∧ a = b ∧ f = g) := by
  simp only [HO.ins.injEq]
theorem IL.sq {K : PySem.W.Frag} {H : Hp} {a : Addr} {ns : List Int} (h : H a = some (IL ns)) : SqL K H a (ns.map V.int) := SqL.of h
theorem RL.sq {K : PySem.W.Frag} {H : Hp} {a : Addr} {ns : List Addr} (h : H a = some (RL ns)) : SqL K H a (ns.map V.ref) := SqL.of h
theorem SL.sq {K : PySem.W.Frag} {H : Hp} {a : Addr} {ns : List Str} (h : H a = some (SL ns)) : SqL K H a (ns.map V.str) := SqL.of h
/-! ### the same of a new thing; of a thing that was there -/
theorem Same.new {H : Hp} {p : Addr} {o : HO} (h : H p = none) : Same H (upd H p o) := fun b u e => by
  rw [upd_ne (ne_of_none e h)]
  exact e
theorem Same.mut {H H' : Hp} {p : Addr} {o : HO} (e : Same H H') (h : H p = none) : Same H (upd H' p o) := fun b u q => by
  rw [upd_ne (ne_of_none q h)]
  exact e b u q
theorem upd_old {H : Hp} {p q : Addr} {o : HO} (h : (H q).isSome = true) (hp : H p = none) : upd H p o q = H q := by
  refine upd_ne fun e => ?_
  rw [e, hp] at h
  cases h
/-! ### a rule by a stronger reading -/
section
variable {X : Cx}
theorem opr_imp {f : Value → Value → Sem Value} {r r' : R2} (h : OpR X f r) (i : ∀ x y H Q, r' x y H Q → r x y H Q) : OpR X f r' := fun pins s σ H x y v u Q I rx ry q => h pins s σ H x y v u Q I rx ry (i _ _ _ _ q)
theorem ixr_imp {r r' : R2} (h : IxR X r) (i : ∀ x y H Q, r' x y H Q → r x y H Q) : IxR X r' := fun value slice pins s σ H x y v u Q I rx ry q e => h value slice pins s σ H x y v u Q I rx ry (i _ _ _ _ q) e
theorem slr_imp {r r' : V → Option Int → Option Int → Hp → VK → Prop} (h : SlR X r) (i : ∀ x l u H Q, r' x l u H Q → r x l u H Q) : SlR X r' := fun pins s σ H x v vl vu lo hi sl Q I rx hs pl pu q => h pins s σ H x v vl vu lo hi sl Q I rx hs pl pu (i _ _ _ _ _ q)
theorem clr_imp {f : Value} {r r' : List V → Hp → VK → Prop} (h : CallR X f r) (i : ∀ xs H Q, r' xs H Q → r xs H Q) : CallR X f r' := fun pins s σ H xs us Q I r q => h pins s σ H xs us Q I r (i _ _ _ q)
theorem mtr_imp {id : String} {r r' : V → List V → Hp → VK → Prop} (h : MtR X id r) (i : ∀ x xs H Q, r' x xs H Q → r x xs H Q) : MtR X id r' := fun pins s σ H x xs v us Q I rx r q => h pins s σ H x xs v us Q I rx r (i _ _ _ _ q)
theorem mtm_imp {id : String} {r r' : V → List V → Hp → VK → Prop} (h : MtM X id r) (i : ∀ x xs H Q, r' x xs H Q → r x xs H Q) : MtM X id r' := fun pins s σ H x xs v us Q I rx r q => h pins s σ H x xs v us Q I rx r (i _ _ _ _ q)
theorem PE.imp {e : Expr} {t t' : TE} (h : PE X e t) (i : ∀ σ H Q, t' σ H Q → t σ H Q) : PE X e t' := ⟨fun pins s σ H Q I q => h.run pins s σ H Q I (i _ _ _ q)⟩
theorem PS.imp {e : Stmt} {t t' : TS} (h : PS X e t) (i : ∀ D σ H, t' D σ H → t D σ H) : PS X e t' := ⟨fun pins s σ H D I q => h.run pins s σ H D I (i _ _ _ q)⟩
theorem PG.imp {e : Expr} {t t' : TG} (h : PG X e t) (i : ∀ v σ H Q, t' v σ H Q → t v σ H Q) : PG X e t' := ⟨fun pins s σ H v u Q I r q => h.run pins s σ H v u Q I r (i _ _ _ _ q)⟩
theorem PI.imp {tg e : Expr} {t t' : TI} (h : PI X tg e t) (i : ∀ σ H R, t' σ H R → t σ H R) : PI X tg e t' := ⟨fun pins s σ H R I q => h.run pins s σ H R I (i _ _ _ q)⟩
theorem PE.cond {e : Expr} {t : TE} {C : V → Hp → Prop} (h : PE X e t) : PE X e (fun σ H Q => t σ H fun x H1 => C x H1 ∧ Q x H1) := ⟨fun pins s σ H Q I q => thn (h.run pins s σ H _ I q) fun u s1 ⟨x, H1, I1, r1, q1⟩ => ⟨x, H1, I1, r1, q1.2⟩⟩
/-! ### subscripts -/
theorem at_int {ns : List Int} {i : Int} (h0 : 0 ≤ i) (h1 : i < ns.length) : atI (ns.map V.int) i = some (.int (ns.getD i.toNat 0)) := by
  have h2 : i.toNat < ns.length := by omega
  refine at_of (j := i.toNat) (by omega) ?_
  rw [List.getElem?_map, List.getElem?_eq_getElem h2, List.getD_eq_getElem?_getD, List.getElem?_eq_getElem h2]
  rfl
theorem at_ref {ns : List Addr} {i : Int} (h0 : 0 ≤ i) (h1 : i < ns.length) : atI (ns.map V.ref) i = some (.ref (ns.getD i.toNat 0)) := by
  have h2 : i.toNat < ns.length := by omega
  refine at_of (j := i.toNat) (by omega) ?_
  rw [List.getElem?_map, List.getElem?_eq_getElem h2, List.getD_eq_getElem?_getD, List.getElem?_eq_getElem h2]
  rfl
def rIxI : R2 := fun x y H Q => ∃ p ns i, x = .ref p ∧ y = .int i ∧ H p = some (IL ns) ∧ 0 ≤ i ∧ i < (ns.length : Int) ∧ Q (.int (ns.getD i.toNat 0)) H
theorem ix_I : IxR X rIxI := ixr_imp ix_list fun x y H Q ⟨p, ns, i, e1, e2, h, h0, h1, q⟩ => ⟨p, _, i, _, e1, e2, IL.sq h, at_int h0 h1, q⟩
def rIxR : R2 := fun x y H Q => ∃ p ns i, x = .ref p ∧ y = .int i ∧ H p = some (RL ns) ∧ 0 ≤ i ∧ i < (ns.length : Int) ∧ Q (.ref (ns.getD i.toNat 0)) H
theorem ix_R : IxR X rIxR := ixr_imp ix_list fun x y H Q ⟨p, ns, i, e1, e2, h, h0, h1, q⟩ => ⟨p, _, i, _, e1, e2, RL.sq h, at_ref h0 h1, q⟩
/-- the last of them -/
def rIxRL : R2 := fun x y H Q => ∃ p ns b, x = .ref p ∧ y = .int (-1) ∧ H p = some (RL (ns ++ [b])) ∧ Q (.ref b) H
theorem ix_RL : IxR X rIxRL := ixr_imp ix_list fun x y H Q ⟨p, ns, b, e1, e2, h, q⟩ => ⟨p, _, _, .ref b, e1, e2, RL.sq h, by rw [List.map_append]; exact atI_last _ _, q⟩
/-- an item of a written tuple -/
def rIxK (a : Addr) (xs : List V) : R2 := fun x y H Q => x = .ref a ∧ ∃ i : Int, y = .int i ∧ 0 ≤ i ∧ ∃ v, xs[i.toNat]? = some v ∧ Q v H
theorem ix_K {x : Str} {a : Addr} {xs : List V} (k : KTup X.K X.mg x a xs) : IxR X (rIxK a xs) := ixr_imp ix_tup fun x y H Q ⟨e1, i, e2, h0, v, hv, q⟩ => ⟨a, xs, i, v, e1, e2, k.sq H, at_of (j := i.toNat) (by omega) hv, q⟩
/-! ### slices -/
def cutI (ns : List Int) (lo hi : Option Int) : List Int := (ns.drop (HT.sIx ns.length 0 lo)).take (HT.sIx ns.length ns.length hi - HT.sIx ns.length 0 lo)
theorem cut_map (ns : List Int) (lo hi : Option Int) : cutV (ns.map V.int) lo hi = (cutI ns lo hi).map V.int := by
  unfold cutV cutI
  rw [List.length_map, List.map_take, List.map_drop]
def rSlI : V → Option Int → Option Int → Hp → VK → Prop := fun x lo hi H Q => ∃ a ns, x = .ref a ∧ H a = some (IL ns) ∧ ∀ p, H p = none → Q (.ref p) (upd H p (IL (cutI ns lo hi)))
theorem sl_I : SlR X rSlI := slr_imp sl_list fun x lo hi H Q ⟨a, ns, e, h, q⟩ => ⟨a, _, e, IL.sq h, fun p hp => by rw [cut_map]; exact q p hp⟩
def stepI (ns : List Int) (lo : Option Int) : List Int := (sliceRange (sliceBounds lo none (some 2) ns.length).1 (sliceBounds lo none (some 2) ns.length).2.1 (sliceBounds lo none (some 2) ns.length).2.2).filterMap (ns[·]?)
/-- the items at some places: what lies in memory against the numbers -/
theorem picked {ns : List Int} {us : List Value} (r : Vals (ns.map V.int) us) (places : List Nat) : Vals ((places.filterMap (ns[·]?)).map V.int) (places.filterMap (us[·]?)) := by
  induction places with
  | nil => exact .nil
  | cons m places ih =>
    by_cases h : m < ns.length
    · have at1 : (ns.map V.int)[m]? = some (.int ns[m]) := by simp [h]
      have ⟨u, at2, ru⟩ := Vals.get r at1
      have at3 : ns[m]? = some ns[m] := List.getElem?_eq_getElem h
      simp only [List.filterMap_cons, at2, at3]
      exact .cons ru ih
    · have at1 : (ns.map V.int)[m]? = none := by simp; omega
      have at2 := Vals.none_of r at1
      have at3 : ns[m]? = none := List.getElem?_eq_none (by omega)
      simp only [List.filterMap_cons, at2, at3]
      exact ih
/-- a slice without an end, its step 2 -/
theorem slice2 {lo : Option Expr} {tl : TO} {k : Nat} {p1 p3 : Pos} {pins : List (Addr × Obj)} {s : Shared} {σ : L2.St} {H : Hp} {R : Option Int → Hp → Prop} {Q : Value → Shared → Prop} (hl : PO X lo tl) (I : Inv X pins σ H s) (h : tl σ H R)
    (q : ∀ (t : Shared) (G : Hp) (l : Option Int) (x y z : Value), Inv X pins σ G t → R l G → IsPart x l → IsPart y none → IsPart z (some 2) → Q (.ref t.heap.objs.size) { t with heap := t.heap.push { cls := .type "slice", data := .fields #[x, y, z] } }) :
    wpAny (model X.prog X.w) X.A (eval (.Slice lo none (some (.Constant (.int 2) k p1)) p3) X.env) Q X.xe s := by
  apply wpAny_Slice
  have stepIs : PO X (some (.Constant (.int 2) k p1)) (tPart (tC (.int 2))) := po_some pe_int
  refine thn (hl.run pins s σ H R I h) ?_
  rintro x t1 ⟨l, G, I1, hx, hR⟩
  refine thn (po_none.run pins t1 σ G (fun o G' => o = none ∧ G' = G) I1 ⟨rfl, rfl⟩) ?_
  rintro y t2 ⟨_, _, I2, hy, rfl, rfl⟩
  refine thn (stepIs.run pins t2 σ _ (fun o G' => o = some 2 ∧ G' = _) I2 ⟨2, rfl, rfl, rfl⟩) ?_
  rintro z t3 ⟨_, _, I3, hz, rfl, rfl⟩
  exact q t3 _ l x y z I3 hR hx hy hz
/-- every second item of a list of ints, from a place on -/
theorem every2 {a b : Addr} {ns : List Int} {l : Option Int} {x y z : Value} {pins : List (Addr × Obj)} {s : Shared} {σ : L2.St} {H : Hp} {Q : VK} (I : Inv X pins σ H s) (hl : H a = some (IL ns)) (hs : s.heap.IsSliceOf b x y z) (hx : IsPart x l) (hy : IsPart y none) (hz : IsPart z (some 2))
    (q : ∀ p, H p = none → Q (.ref p) (upd H p (IL (stepI ns l)))) : wpAny (model X.prog X.w) X.A (getItem (.ref a) (.ref b)) (EP X pins σ Q) X.xe s := by
  have ⟨us, rel, here, few⟩ := I.list (IL.sq (K := X.K) hl)
  have many : us.length = ns.length := by rw [← rel.length, List.length_map]
  have made : Vals ((stepI ns l).map V.int) (slicePick us.toArray l none (some 2)).toList := by
    have p := picked rel (sliceRange (sliceBounds l none (some 2) ns.length).1 (sliceBounds l none (some 2) ns.length).2.1 (sliceBounds l none (some 2) ns.length).2.2)
    unfold stepI slicePick
    simpa [many] using p
  rw [List.length_map] at few
  have most : (slicePick us.toArray l none (some 2)).size ≤ us.length := Nat.le_trans (slicePick_size_le us.toArray l none (some 2)) (Nat.le_of_eq List.size_toArray)
  have count : ((stepI ns l).map V.int).length = (slicePick us.toArray l none (some 2)).size := made.length
  refine wpAny_getItem_list_slice here.isList hs hx hy hz (by decide) ?_ (by rw [List.size_toArray]; omega)
  have fresh := I.hok.fresh (Nat.le_refl s.heap.objs.size)
  have object : ObjOk X.prog X.w (upd H s.heap.objs.size (IL (stepI ns l))) (s.heap.push { cls := .type "list", data := .seq (slicePick us.toArray l none (some 2)) }) s.heap.objs.size (IL (stepI ns l)) := by
    refine ⟨by omega, (slicePick us.toArray l none (some 2)).toList, 0, made, ?_⟩
    exact Heap.get?_push_size _ rfl
  exact ⟨.ref s.heap.objs.size, _, I.laid (t' := s.toks) (fun _ _ old => Heap.get?_push_of_some _ old) (Nat.le_refl _) object, rfl, q _ fresh⟩
theorem pe_stepI {e : Expr} {te : TE} {lo : Option Expr} {tl : TO} {k : Nat} {p1 p3 pos : Pos} (he : PE X e te) (hl : PO X lo tl) : PE X (.Subscript e (.Slice lo none (some (.Constant (.int 2) k p1)) p3) pos) (fun σ H Q => te σ H fun x H1 => tl σ H1 fun lo H2 => ∃ a ns, x = .ref a ∧ H2 a = some (IL ns) ∧ ∀ p, H2 p = none → Q (.ref p) (upd H2 p (IL (stepI ns lo)))) := by
  constructor
  intro pins s σ H Q I wish
  apply Subscript_
  refine thn (he.run pins s σ H _ I wish) ?_
  rintro v s1 ⟨x, H1, I1, rel, wish1⟩
  refine slice2 hl I1 wish1 ?_
  rintro t G l u y z J ⟨a, ns, rfl, at1, made⟩ hu hy hz
  cases rel
  have J2 : Inv X pins σ G { t with heap := t.heap.push { cls := .type "slice", data := .fields #[u, y, z] } } := J.kept (t' := t.toks) fun _ _ old => Heap.get?_push_of_some _ old
  have ⟨_, _, here, _⟩ := J2.list (IL.sq (K := X.K) at1)
  exact tail_any (ops := [.ref a, .ref t.heap.objs.size]) here.isList.typeIs PySem.slot_list_getitem.lookup (every2 J2 at1 (Heap.IsSliceOf.new _ u y z) hu hy hz made) (by with_unfolding_all rfl)
def tStepI (te : TE) (tl : TO) : TE := fun σ H Q => te σ H fun x H1 => tl σ H1 fun lo H2 => ∃ a ns, x = .ref a ∧ H2 a = some (IL ns) ∧ ∀ p, H2 p = none → Q (.ref p) (upd H2 p (IL (stepI ns lo)))
end
/-! ### what is asked of tests, lists -/
section
variable {X : Cx}
theorem flat_ints (ns : List Int) : (ns.map V.int).all flatV = true := by
  rw [List.all_eq_true]
  intro x hx
  obtain ⟨i, _, rfl⟩ := List.mem_map.mp hx
  rfl
theorem in_ints (n : Int) : ∀ ns : List Int, inV (.int n) (ns.map V.int) = decide (n ∈ ns)
  | [] => by simp [inV]
  | m :: r => by
    have ih := in_ints n r
    unfold inV at ih ⊢
    rw [List.map_cons, List.any_cons, ih]
    by_cases e : m = n
    · subst e
      simp [eqV]
    · have e1 : eqV (.int m) (.int n) = false := by simp [eqV, e]
      have e2 : ¬ n = m := fun z => e z.symm
      rw [e1]
      simp [e2]
def rInI : R2 := fun x y H Q => ∃ p ns n, x = .int n ∧ y = .ref p ∧ H p = some (IL ns) ∧ Q (.bl (decide (n ∈ ns))) H
def rNotInI : R2 := fun x y H Q => ∃ p ns n, x = .int n ∧ y = .ref p ∧ H p = some (IL ns) ∧ Q (.bl (!decide (n ∈ ns))) H
theorem op_inI : OpR X (compareOp .In) rInI := opr_imp op_in_seq fun x y H Q ⟨p, ns, n, e1, e2, h, q⟩ => ⟨p, _, e2, .inl (IL.sq h), by rw [e1]; rfl, flat_ints ns, by rw [e1, in_ints]; exact q⟩
theorem op_notInI : OpR X (compareOp .NotIn) rNotInI := opr_imp op_notIn_seq fun x y H Q ⟨p, ns, n, e1, e2, h, q⟩ => ⟨p, _, e2, .inl (IL.sq h), by rw [e1]; rfl, flat_ints ns, by rw [e1, in_ints]; exact q⟩
theorem op_notInIK (K : PySem.W.Frag) : OpR X (compareOp .NotIn) rNotInI := op_notInI
/-- in a written tuple of ints -/
def rInK (a : Addr) (ns : List Int) : R2 := fun x y H Q => y = .ref a ∧ ∃ n, x = .int n ∧ Q (.bl (decide (n ∈ ns))) H
theorem op_inK {x : Str} {a : Addr} {ns : List Int} (k : KTup X.K X.mg x a (ns.map V.int)) : OpR X (compareOp .In) (rInK a ns) := opr_imp op_in_seq fun x y H Q ⟨e2, n, e1, q⟩ => ⟨a, _, e2, .inr (k.sq H), by rw [e1]; rfl, flat_ints ns, by rw [e1, in_ints]; exact q⟩
/-- in a tuple of ints that is made -/
def tupInts : List V → List Int
  | [] => []
  | .int i :: r => i :: tupInts r
  | _ :: r => tupInts r
def allInts : List V → Bool
  | [] => true
  | .int _ :: r => allInts r
  | _ => false
theorem ints_back : ∀ {vs : List V}, allInts vs = true → (tupInts vs).map V.int = vs
  | [], _ => rfl
  | .int i :: r, h => by
    have ih := ints_back (vs := r) h
    show V.int i :: (tupInts r).map V.int = V.int i :: r
    rw [ih]
  | .non :: _, h => by cases h
  | .bl _ :: _, h => by cases h
  | .str _ :: _, h => by cases h
  | .byt _ :: _, h => by cases h
  | .flt _ :: _, h => by cases h
  | .ref _ :: _, h => by cases h
  | .ty _ :: _, h => by cases h
def rInT : R2 := fun x y H Q => ∃ p vs n, x = .int n ∧ y = .ref p ∧ H p = some (.tup vs) ∧ allInts vs = true ∧ Q (.bl (decide (n ∈ tupInts vs))) H
theorem op_inT : OpR X (compareOp .In) rInT := opr_imp op_in_seq fun x y H Q ⟨p, vs, n, e1, e2, h, ha, q⟩ => by
  have e3 := ints_back ha
  refine ⟨p, vs, e2, .inr (SqT.of h), by rw [e1]; rfl, by rw [← e3]; exact flat_ints _, ?_⟩
  rw [e1, ← e3, in_ints]
  exact q
/-- None in a list of flat things -/
def rInF : R2 := fun x y H Q => ∃ p vs, y = .ref p ∧ H p = some (.lst vs) ∧ flatV x = true ∧ vs.all flatV = true ∧ Q (.bl (inV x vs)) H
theorem op_inF : OpR X (compareOp .In) rInF := opr_imp op_in_seq fun x y H Q ⟨p, vs, e2, h, h1, h2, q⟩ => ⟨p, vs, e2, .inl (SqL.of h), h1, h2, q⟩
/-! ### len, list, sorted -/
def rLenI : List V → Hp → VK → Prop := fun xs H Q => ∃ p ns, xs = [.ref p] ∧ H p = some (IL ns) ∧ Q (.int ns.length) H
theorem len_I : CallR X (.builtin "len") rLenI := clr_imp call_len_seq fun xs H Q ⟨p, ns, e, h, q⟩ => ⟨p, _, e, .inl (IL.sq h), by rw [List.length_map]; exact q⟩
def rLenR : List V → Hp → VK → Prop := fun xs H Q => ∃ p ns, xs = [.ref p] ∧ H p = some (RL ns) ∧ Q (.int ns.length) H
theorem len_R : CallR X (.builtin "len") rLenR := clr_imp call_len_seq fun xs H Q ⟨p, ns, e, h, q⟩ => ⟨p, _, e, .inl (RL.sq h), by rw [List.length_map]; exact q⟩
/-- any tracked list -/
def rLenA : List V → Hp → VK → Prop := fun xs H Q => ∃ p vs, xs = [.ref p] ∧ H p = some (.lst vs) ∧ Q (.int vs.length) H
theorem len_A : CallR X (.builtin "len") rLenA := clr_imp call_len_seq fun xs H Q ⟨p, ns, e, h, q⟩ => ⟨p, _, e, .inl (SqL.of h), q⟩
def rListI : List V → Hp → VK → Prop := fun xs H Q => ∃ p ns, xs = [.ref p] ∧ H p = some (IL ns) ∧ ∀ l, H l = none → Q (.ref l) (upd H l (IL ns))
theorem list_I : CallR X (.type "list") rListI := clr_imp call_list_of fun xs H Q ⟨p, ns, e, h, q⟩ => ⟨p, _, e, .inl (IL.sq h), q⟩
def rSortI' : List V → Hp → VK → Prop := fun xs H Q => ∃ p ns, xs = [.ref p] ∧ H p = some (IL ns) ∧ ns.length < 64 ∧ ∀ ns' l, ns'.Perm ns → ns'.Pairwise (· ≤ ·) → H l = none → Q (.ref l) (upd H l (IL ns'))
theorem sorted_I : CallR X (.builtin "sorted") rSortI' := clr_imp cr_sorted fun xs H Q ⟨p, ns, e, h, hl, q⟩ => ⟨p, _, e, IL.sq h, hl, q⟩
/-- all of a list of bools -/
def BL (bs : List Bool) : HO := .lst (bs.map V.bl)
theorem bl_inj0 : ∀ {a b : List Bool}, a.map V.bl = b.map V.bl → a = b
  | [], [], _ => rfl
  | [], _ :: _, h => by simp at h
  | _ :: _, [], h => by simp at h
  | x :: a, y :: b, h => by
    rw [List.map_cons, List.map_cons] at h
    injection h with h1 h2
    injection h1 with h3
    rw [h3, bl_inj0 h2]
theorem bl_inj {a b : List Bool} : (BL a = BL b) = (a = b) := propext ⟨fun h => bl_inj0 (HO.lst.inj h), fun h => by rw [h]⟩
def rAllB : List V → Hp → VK → Prop := fun xs H Q => ∃ p bs, xs = [.ref p] ∧ H p = some (BL bs) ∧ Q (.bl (bs.all id)) H
theorem all_B (hc : X.calm = true) : CallR X (.builtin "all") rAllB := clr_imp (cr_all hc) fun xs H Q ⟨p, bs, e, h, q⟩ => ⟨p, bs, e, SqL.of h, q⟩
/-! ### == of lists of ints -/
theorem dp_ints {K : PySem.W.Frag} {H : Hp} : ∀ ns : List Int, DpAll K H (ns.map V.int) (ns.map PyData.int)
  | [] => .nil
  | n :: r => .cons (.int n) (dp_ints r)
theorem lay_ints : ∀ ns : List Int, PyData.canLayAll0 (ns.map PyData.int) = true
  | [] => by simp [PyData.canLayAll0]
  | n :: r => by simp [PyData.canLayAll0, PyData.canLay0, lay_ints r]
theorem dep_ints : ∀ ns : List Int, PyData.depthAll (ns.map PyData.int) ≤ 1
  | [] => by simp [PyData.depthAll]
  | n :: r => by
    have h := dep_ints r
    simp only [List.map_cons, PyData.depthAll, PyData.depth]
    omega
theorem shp_ints (ns : List Int) : SeqAt.shaped (.list (ns.map PyData.int)) = true := by
  have h := dep_ints ns
  show ((PyData.list (ns.map PyData.int)).canLay0 && decide ((PyData.list (ns.map PyData.int)).depth ≤ 64)) = true
  rw [Bool.and_eq_true]
  refine ⟨by simp only [PyData.canLay0]; exact lay_ints ns, decide_eq_true ?_⟩
  simp only [PyData.depth]
  omega
theorem eqv_ints : ∀ a b : List Int, PyData.eqvAll (a.map PyData.int) (b.map PyData.int) = decide (a = b)
  | [], [] => by simp [PyData.eqvAll]
  | [], _ :: _ => by simp [PyData.eqvAll]
  | _ :: _, [] => by simp [PyData.eqvAll]
  | x :: a, y :: b => by
    have ih := eqv_ints a b
    simp only [List.map_cons, PyData.eqvAll, PyData.eqv, ih]
    by_cases e : x = y
    · subst e
      simp
    · have e1 : (x == y) = false := by simpa using e
      rw [e1]
      simp [e]
theorem eqv_il (a b : List Int) : PyData.eqv (.list (a.map PyData.int)) (.list (b.map PyData.int)) = decide (a = b) := by
  rw [PyData.eqv]
  exact eqv_ints a b
theorem dp_il {K : PySem.W.Frag} {H : Hp} {a : Addr} {ns : List Int} (h : H a = some (IL ns)) : Dp K H (.ref a) (.list (ns.map PyData.int)) := .lst (IL.sq h) (dp_ints ns)
def rEqI : R2 := fun x y H Q => ∃ p q a b, x = .ref p ∧ y = .ref q ∧ H p = some (IL a) ∧ H q = some (IL b) ∧ Q (.bl (decide (a = b))) H
def rNeI : R2 := fun x y H Q => ∃ p q a b, x = .ref p ∧ y = .ref q ∧ H p = some (IL a) ∧ H q = some (IL b) ∧ Q (.bl (!decide (a = b))) H
theorem op_eqI (hu : X.A.units + 64 < cLine) : OpR X (compareOp .Eq) rEqI := opr_imp (op_eqD hu) fun x y H Q ⟨p, q, a, b, e1, e2, h1, h2, k⟩ => ⟨_, _, by rw [e1]; exact dp_il h1, by rw [e2]; exact dp_il h2, shp_ints a, shp_ints b, by rw [eqv_il]; exact k⟩
theorem op_neI (hu : X.A.units + 64 < cLine) : OpR X (compareOp .NotEq) rNeI := opr_imp (op_neD hu) fun x y H Q ⟨p, q, a, b, e1, e2, h1, h2, k⟩ => ⟨_, _, by rw [e1]; exact dp_il h1, by rw [e2]; exact dp_il h2, shp_ints a, shp_ints b, by rw [eqv_il]; exact k⟩
/-! ### +, append, extend, index, displays -/
def rCatI : R2 := fun x y H Q => ∃ l b ns ms, x = .ref l ∧ y = .ref b ∧ H l = some (IL ns) ∧ H b = some (IL ms) ∧ ns.length + ms.length ≤ sizeLine ∧ ∀ p, H p = none → Q (.ref p) (upd H p (IL (ns ++ ms)))
theorem op_catI : OpR X (binaryOp .Add) rCatI := opr_imp op_cat fun x y H Q ⟨l, b, ns, ms, e1, e2, h1, h2, hz, q⟩ => ⟨l, b, _, _, e1, e2, h1, h2, by rw [List.length_map, List.length_map]; exact hz, fun p hp => by rw [← List.map_append]; exact q p hp⟩
def rCatS : R2 := fun x y H Q => ∃ l b ns ms, x = .ref l ∧ y = .ref b ∧ H l = some (SL ns) ∧ H b = some (SL ms) ∧ ns.length + ms.length ≤ sizeLine ∧ ∀ p, H p = none → Q (.ref p) (upd H p (SL (ns ++ ms)))
theorem op_catS : OpR X (binaryOp .Add) rCatS := opr_imp op_cat fun x y H Q ⟨l, b, ns, ms, e1, e2, h1, h2, hz, q⟩ => ⟨l, b, _, _, e1, e2, h1, h2, by rw [List.length_map, List.length_map]; exact hz, fun p hp => by rw [← List.map_append]; exact q p hp⟩
/-- a method of a tracked list -/
def tLM (r : V → List V → Hp → VK → Prop) (to : TE) (t : TA) : TE := fun σ H Q => to σ H fun x H1 => ∃ p ys, x = .ref p ∧ H1 p = some (.lst ys) ∧ t σ H1 fun xs H2 => r x xs H2 Q
def rAppI : V → List V → Hp → VK → Prop := fun x vs H Q => ∃ l ns n, x = .ref l ∧ vs = [.int n] ∧ H l = some (IL ns) ∧ ns.length < sizeLine ∧ Q .non (upd H l (IL (ns ++ [n])))
theorem app_I : MtM X "list.append" rAppI := mtm_imp mt_append fun x xs H Q ⟨l, ns, n, e1, e2, h, hz, q⟩ => ⟨l, _, .int n, e1, e2, h, by rw [List.length_map]; exact hz, by
  have e : (ns ++ [n]).map V.int = ns.map V.int ++ [V.int n] := by rw [List.map_append]; rfl
  rw [← e]
  exact q⟩
def rAppR : V → List V → Hp → VK → Prop := fun x vs H Q => ∃ l ns n, x = .ref l ∧ vs = [.ref n] ∧ H l = some (RL ns) ∧ ns.length < sizeLine ∧ Q .non (upd H l (RL (ns ++ [n])))
theorem app_R : MtM X "list.append" rAppR := mtm_imp mt_append fun x xs H Q ⟨l, ns, n, e1, e2, h, hz, q⟩ => ⟨l, _, .ref n, e1, e2, h, by rw [List.length_map]; exact hz, by
  have e : (ns ++ [n]).map V.ref = ns.map V.ref ++ [V.ref n] := by rw [List.map_append]; rfl
  rw [← e]
  exact q⟩
def rExtI : V → List V → Hp → VK → Prop := fun x vs H Q => ∃ l b ns ms, x = .ref l ∧ vs = [.ref b] ∧ H l = some (IL ns) ∧ H b = some (IL ms) ∧ ns.length + ms.length ≤ sizeLine ∧ Q .non (upd H l (IL (ns ++ ms)))
theorem ext_I : MtM X "list.extend" rExtI := mtm_imp mt_extend fun x xs H Q ⟨l, b, ns, ms, e1, e2, h1, h2, hz, q⟩ => ⟨l, b, _, _, e1, e2, h1, h2, by rw [List.length_map, List.length_map]; exact hz, by rw [← List.map_append]; exact q⟩
theorem get_int {ns : List Int} {j : Nat} {z : V} (h : (ns.map V.int)[j]? = some z) : ∃ n, ns[j]? = some n ∧ z = .int n := by
  rw [List.getElem?_map] at h
  cases e : ns[j]? with
  | none =>
    rw [e] at h
    cases h
  | some n =>
    rw [e] at h
    exact ⟨n, rfl, (Option.some.inj h).symm⟩
def rIdxI : V → List V → Hp → VK → Prop := fun x xs H Q => ∃ a ns n, x = .ref a ∧ xs = [.int n] ∧ H a = some (IL ns) ∧ n ∈ ns ∧ Q (.int (ns.idxOf n : Nat)) H
theorem idx_I : MtR X "list.index" rIdxI := mtr_imp mt_index fun x xs H Q ⟨a, ns, n, e1, e2, h, hm, q⟩ => by
  have hl := List.idxOf_lt_length_of_mem hm
  refine ⟨a, _, .int n, ns.idxOf n, .int n, e1, e2, IL.sq h, rfl, flat_ints ns, ?_, by simp [eqV], fun m z' hlt hz => ?_, q⟩
  · rw [List.getElem?_map, List.getElem?_eq_getElem hl, List.getElem_idxOf hl]
    rfl
  · obtain ⟨k, hk, rfl⟩ := get_int hz
    have hne : ¬ k = n := by
      intro e
      subst e
      have hm' : m < ns.length := by omega
      have := List.not_of_lt_findIdx (p := (· == k)) (xs := ns) (i := m) hlt
      rw [List.getElem?_eq_getElem hm'] at hk
      simp [Option.some.inj hk] at this
    simp [eqV, hne]
theorem pe_lm {o e : Expr} {es : List Expr} {to : TE} {t : TA} {name : Str} {apos cpos : Pos} {id : String} {r : V → List V → Hp → VK → Prop} (pa : PlainAttrs "list") (slot : Slot "list" name id) (hty : typeOf (.builtin id) = pure (.type "method_descriptor")) (hm : MtR X id r) (ho : PE X o to) (ha : PA X (e :: es) t)
    (hbase : attributeBase o name X.env (eval o X.env) = eval o X.env := by rfl)
    (hfew : ((backTo cpos (starEach (e :: es) X.env)).all (fun x => !x.1) && (backToKw cpos (keywordEach [] X.env)).all (fun x => x.1.isSome) && decide ((e :: es).length + ([] : List Keyword).length + (if ([] : List Keyword).isEmpty then 0 else 1) < 30)) = true := by rfl)
    (hline : (apos.endLine == cpos.line) = true := by rfl) (hs : starEach (e :: es) X.env = (false, eval e X.env) :: starEach es X.env := by rfl) (hplain : (backTo cpos (starEach es X.env)).any (·.1) = false := by rfl) :
    PE X (.Call (.Attribute o name apos) (e :: es) [] cpos) (tLM r to t) := by
  have h : PE X (.Call (.Attribute o name apos) (e :: es) [] cpos) (tBM X.K "list" r (fun σ H Q => to σ H fun x H1 => (∃ p ys, x = .ref p ∧ H1 p = some (.lst ys)) ∧ Q x H1) t) := by
    refine pe_bm pa slot hty hm ⟨fun pins s σ H Q I q => ?_⟩ ha hbase hfew hline hs hplain
    exact thn (ho.run pins s σ H _ I q) fun u s1 ⟨x, H1, I1, r1, q1⟩ => ⟨x, H1, I1, r1, q1.2⟩
  refine ⟨fun pins s σ H Q I q => ?_⟩
  refine h.run pins s σ H Q I ?_
  have e : (fun (x : V) (H1 : Hp) => (∃ p ys, x = V.ref p ∧ H1 p = some (HO.lst ys)) ∧ (tyV X.K "list" x H1 ∧ t σ H1 fun xs H2 => r x xs H2 Q)) = fun x H1 => ∃ p ys, x = V.ref p ∧ H1 p = some (HO.lst ys) ∧ t σ H1 fun xs H2 => r x xs H2 Q := by
    funext x H1
    refine propext ⟨fun ⟨⟨p, ys, e1, e2⟩, _, z⟩ => ⟨p, ys, e1, e2, z⟩, fun ⟨p, ys, e1, e2, z⟩ => ⟨⟨p, ys, e1, e2⟩, ?_, z⟩⟩
    subst e1
    exact .inl ⟨rfl, ys, SqL.of e2⟩
  show to σ H (fun (x : V) (H1 : Hp) => (∃ p ys, x = V.ref p ∧ H1 p = some (HO.lst ys)) ∧ (tyV X.K "list" x H1 ∧ t σ H1 fun xs H2 => r x xs H2 Q))
  rw [e]
  exact q
/-- a display of ints -/
def tLstI (t : TA) : TE := fun σ H Q => t σ H fun vs H1 => allInts vs = true ∧ vs.length ≤ 1000 ∧ ∀ p, H1 p = none → Q (.ref p) (upd H1 p (IL (tupInts vs)))
theorem pe_lstI {es : List Expr} {t : TA} {pos : Pos} (h : PA X es t) : PE X (.List es pos) (tLstI t) := by
  have hm : PA X es (fun σ H Q => t σ H fun vs H1 => (allInts vs = true ∧ vs.length ≤ 1000) ∧ Q vs H1) := ⟨fun pos pins s σ H Q I q => thn (h.run pos pins s σ H _ I q) fun us s1 ⟨vs, H1, I1, r1, q1⟩ => ⟨vs, H1, I1, r1, q1.2⟩⟩
  refine ⟨fun pins s σ H Q I q => (pe_lst hm).run pins s σ H Q I ?_⟩
  have e : (fun (vs : List V) (H1 : Hp) => allInts vs = true ∧ vs.length ≤ 1000 ∧ ∀ p, H1 p = none → Q (.ref p) (upd H1 p (IL (tupInts vs)))) = fun vs H1 => (allInts vs = true ∧ vs.length ≤ 1000) ∧ (vs.length ≤ sizeLine ∧ ∀ p, H1 p = none → Q (.ref p) (upd H1 p (.lst vs))) := by
    funext vs H1
    refine propext ⟨fun ⟨a, b, z⟩ => ⟨⟨a, b⟩, Nat.le_trans b (by rw [sizeLine_eq]; decide), fun p hp => ?_⟩, fun ⟨⟨a, b⟩, _, z⟩ => ⟨a, b, fun p hp => ?_⟩⟩
    · have := z p hp
      unfold IL at this
      rw [ints_back a] at this
      exact this
    · unfold IL
      rw [ints_back a]
      exact z p hp
  show t σ H _
  rw [← e]
  exact q
/-- a display of texts -/
def tupStrs : List V → List Str
  | [] => []
  | .str i :: r => i :: tupStrs r
  | _ :: r => tupStrs r
def allStrs : List V → Bool
  | [] => true
  | .str _ :: r => allStrs r
  | _ => false
theorem strs_back : ∀ {vs : List V}, allStrs vs = true → (tupStrs vs).map V.str = vs
  | [], _ => rfl
  | .str i :: r, h => by
    have ih := strs_back (vs := r) h
    show V.str i :: (tupStrs r).map V.str = V.str i :: r
    rw [ih]
  | .non :: _, h => by cases h
  | .bl _ :: _, h => by cases h
  | .int _ :: _, h => by cases h
  | .byt _ :: _, h => by cases h
  | .flt _ :: _, h => by cases h
  | .ref _ :: _, h => by cases h
  | .ty _ :: _, h => by cases h
def tLstS (t : TA) : TE := fun σ H Q => t σ H fun vs H1 => allStrs vs = true ∧ vs.length ≤ 1000 ∧ ∀ p, H1 p = none → Q (.ref p) (upd H1 p (SL (tupStrs vs)))
theorem pe_lstS {es : List Expr} {t : TA} {pos : Pos} (h : PA X es t) : PE X (.List es pos) (tLstS t) := by
  have hm : PA X es (fun σ H Q => t σ H fun vs H1 => (allStrs vs = true ∧ vs.length ≤ 1000) ∧ Q vs H1) := ⟨fun pos pins s σ H Q I q => thn (h.run pos pins s σ H _ I q) fun us s1 ⟨vs, H1, I1, r1, q1⟩ => ⟨vs, H1, I1, r1, q1.2⟩⟩
  refine ⟨fun pins s σ H Q I q => (pe_lst hm).run pins s σ H Q I ?_⟩
  have e : (fun (vs : List V) (H1 : Hp) => allStrs vs = true ∧ vs.length ≤ 1000 ∧ ∀ p, H1 p = none → Q (.ref p) (upd H1 p (SL (tupStrs vs)))) = fun vs H1 => (allStrs vs = true ∧ vs.length ≤ 1000) ∧ (vs.length ≤ sizeLine ∧ ∀ p, H1 p = none → Q (.ref p) (upd H1 p (.lst vs))) := by
    funext vs H1
    refine propext ⟨fun ⟨a, b, z⟩ => ⟨⟨a, b⟩, Nat.le_trans b (by rw [sizeLine_eq]; decide), fun p hp => ?_⟩, fun ⟨⟨a, b⟩, _, z⟩ => ⟨a, b, fun p hp => ?_⟩⟩
    · have := z p hp
      unfold SL at this
      rw [strs_back a] at this
      exact this
    · unfold SL
      rw [strs_back a]
      exact z p hp
  show t σ H _
  rw [← e]
  exact q
/-! ### fields -/
/-- e.f, the class known from the start -/
def tFldT (C : Addr) (ta : TE) (f : Str) : TE := fun σ H Q => ta σ H fun x H1 => ∃ a dx fs v, x = .ref a ∧ H1 a = some (.ins C dx fs) ∧ fs.lookup f = some v ∧ Q v H1
theorem pe_fldT {C : Addr} {e : Expr} {f : Str} {pos : Pos} {ta : TE} (c : Cls X.K C) (n : NoAttr X.K C f) (he : PE X e ta) (hb : attributeBase e f X.env (eval e X.env) = eval e X.env) : PE X (.Attribute e f pos) (tFldT C ta f) := by
  have hm : PE X e (fun σ H Q => ta σ H fun x H1 => (∃ a dx fs, x = V.ref a ∧ H1 a = some (HO.ins C dx fs)) ∧ Q x H1) := PE.cond he
  refine ⟨fun pins s σ H Q I q => (pe_fld hm hb).run pins s σ H Q I ?_⟩
  have e1 : (fun (x : V) (H1 : Hp) => ∃ a dx fs v, x = V.ref a ∧ H1 a = some (HO.ins C dx fs) ∧ fs.lookup f = some v ∧ Q v H1) = fun x H1 => (∃ a dx fs, x = V.ref a ∧ H1 a = some (HO.ins C dx fs)) ∧ ∃ a D dx fs v, x = V.ref a ∧ H1 a = some (.ins D dx fs) ∧ Cls X.K D ∧ NoAttr X.K D f ∧ fs.lookup f = some v ∧ Q v H1 := by
    funext x H1
    refine propext ⟨fun ⟨a, dx, fs, v, e1, e2, e3, z⟩ => ⟨⟨a, dx, fs, e1, e2⟩, a, C, dx, fs, v, e1, e2, c, n, e3, z⟩, fun ⟨⟨a, dx, fs, e1, e2⟩, a', D, dx', fs', v, e1', e2', _, _, e3, z⟩ => ?_⟩
    subst e1
    cases e1'
    rw [e2] at e2'
    cases e2'
    exact ⟨a, dx, fs, v, rfl, e2, e3, z⟩
  show ta σ H _
  rw [← e1]
  exact q
/-- e.f = value -/
def sFldT (C : Addr) (ta tv : TE) (f : Str) : TS := fun D σ H => tv σ H fun y H1 => ta σ H1 fun x H2 => ∃ a dx fs, x = .ref a ∧ H2 a = some (.ins C dx fs) ∧ fs.length < 1000 ∧ D.nx σ (upd H2 a (.ins C dx (putF f y fs)))
theorem ps_fldT {C : Addr} {o value : Expr} {f : Str} {pos pos' : Pos} {ta tv : TE} (c : Cls X.K C) (n : NoAttr X.K C f) (ha : PE X o ta) (hv : PE X value tv) (hs : swapsWith value (some (.Attribute o f pos')) pos.line X.env = pure false) : PS X (.Assign [.Attribute o f pos'] value pos) (sFldT C ta tv f) := by
  have hm : PE X o (fun σ H Q => ta σ H fun x H1 => (∃ a dx fs, x = V.ref a ∧ H1 a = some (HO.ins C dx fs)) ∧ Q x H1) := PE.cond ha
  refine ⟨fun pins s σ H D I q => (ps_fld hm hv hs).run pins s σ H D I ?_⟩
  have e1 : (fun (y : V) (H1 : Hp) => ta σ H1 fun x H2 => ∃ a dx fs, x = V.ref a ∧ H2 a = some (HO.ins C dx fs) ∧ fs.length < 1000 ∧ D.nx σ (upd H2 a (.ins C dx (putF f y fs)))) =
      fun y H1 => ta σ H1 fun x H2 => (∃ a dx fs, x = V.ref a ∧ H2 a = some (HO.ins C dx fs)) ∧ ∃ a E dx fs, x = V.ref a ∧ H2 a = some (.ins E dx fs) ∧ Cls X.K E ∧ NoAttr X.K E f ∧ fs.length < 1000 ∧ D.nx σ (upd H2 a (.ins E dx (putF f y fs))) := by
    funext y H1
    refine congrArg _ ?_
    funext x H2
    refine propext ⟨fun ⟨a, dx, fs, e1, e2, e3, z⟩ => ⟨⟨a, dx, fs, e1, e2⟩, a, C, dx, fs, e1, e2, c, n, e3, z⟩, fun ⟨⟨a, dx, fs, e1, e2⟩, a', E, dx', fs', e1', e2', _, _, e3, z⟩ => ?_⟩
    subst e1
    cases e1'
    rw [e2] at e2'
    cases e2'
    exact ⟨a, dx, fs, rfl, e2, e3, z⟩
  show tv σ H _
  rw [← e1]
  exact q
/-! ### unpacking a list -/
def gUnI (n : Nat) (t : TGs) : TG := fun v σ H Q => ∃ a ns, v = .ref a ∧ H a = some (IL ns) ∧ ns.length = n ∧ t (ns.map V.int) σ H Q
theorem pg_unI {es : List Expr} {k : Nat} {t : TGs} {n : Nat} {pos : Pos} (hc : X.calm = true) (h : PGs X es t) (hn : (assignEach es X.env).length = n := by rfl) (hst : (assignEach es X.env).findIdx? (·.1) = none := by rfl) : PG X (.Tuple es k pos) (gUnI n t) :=
  PG.imp (pg_lst hc h hn hst) fun v σ H Q ⟨a, ns, e, h1, h2, q⟩ => ⟨a, _, e, IL.sq h1, by rw [List.length_map]; exact h2, q⟩
def gUnR (n : Nat) (t : TGs) : TG := fun v σ H Q => ∃ a ns, v = .ref a ∧ H a = some (RL ns) ∧ ns.length = n ∧ t (ns.map V.ref) σ H Q
theorem pg_unR {es : List Expr} {k : Nat} {t : TGs} {n : Nat} {pos : Pos} (hc : X.calm = true) (h : PGs X es t) (hn : (assignEach es X.env).length = n := by rfl) (hst : (assignEach es X.env).findIdx? (·.1) = none := by rfl) : PG X (.Tuple es k pos) (gUnR n t) :=
  PG.imp (pg_lst hc h hn hst) fun v σ H Q ⟨a, ns, e, h1, h2, q⟩ => ⟨a, _, e, RL.sq h1, by rw [List.length_map]; exact h2, q⟩
/-- a tuple that is tracked -/
def gTupT (n : Nat) (t : TGs) : TG := fun v σ H Q => ∃ a xs, v = .ref a ∧ H a = some (.tup xs) ∧ xs.length = n ∧ t xs σ H Q
theorem pg_tupT {es : List Expr} {k : Nat} {t : TGs} {n : Nat} {pos : Pos} (hc : X.calm = true) (h : PGs X es t) (hn : (assignEach es X.env).length = n := by rfl) (hst : (assignEach es X.env).findIdx? (·.1) = none := by rfl) : PG X (.Tuple es k pos) (gTupT n t) :=
  PG.imp (pg_tup hc h hn hst) fun v σ H Q ⟨a, xs, e, h1, h2, q⟩ => ⟨a, xs, e, SqT.of h1, h2, q⟩
/-! ### loops: what is walked, and the loop itself as a word -/
def ForIt (J : It) (g : TG) (tb : TS) (D : Ends) (σ : L2.St) (H1 : Hp) : Prop := ∃ W : Nat → Nat → L2.St → Hp → Prop, (∃ m, W 0 m σ H1) ∧ ∀ i m σ H, W i m σ H →
  (J.stop i H ∧ D.nx σ H) ∨ (J.go i H ∧ ∃ N : L2.St → Hp → Prop, (∀ σ' H', N σ' H' → ∃ m', m' < m ∧ W (i + 1) m' σ' H') ∧ ∀ x H', J.yld i H x H' → g x σ H' fun σ2 H2 => tb { D with nx := N, ct := N, bk := D.nx } σ2 H2)
theorem tFor_eq {wi : TI} {g : TG} {tb : TS} {D : Ends} {σ : L2.St} {H : Hp} : tFor wi g tb D σ H = wi σ H fun J H1 => ForIt J g tb D σ H1 := rfl
theorem for_w {J : It} {n : Nat} {G : Hp → Prop} {Y : Nat → Hp → V → Hp → Prop} (w : Walk J n G Y) {g : TG} {tb : TS} {D : Ends} {σ : L2.St} {H : Hp} (Pv : Nat → L2.St → Hp → Prop) (h0 : Pv 0 σ H) (hG : ∀ i σ H, i ≤ n → Pv i σ H → G H)
    (hs : ∀ i x σ H H', i < n → Pv i σ H → Y i H x H' → g x σ H' fun σ2 H2 => tb { D with nx := Pv (i + 1), ct := Pv (i + 1), bk := D.nx } σ2 H2) (hd : ∀ σ H, Pv n σ H → D.nx σ H) : ForIt J g tb D σ H := for_it w Pv h0 hG hs hd
def LcIt (J : It) (g : TG) (tt : TT) (te : TE) (vs : List Nat) (σ : L2.St) (H1 : Hp) (D : Addr) (Q : VK) : Prop := ∃ W : Nat → Nat → Hp → Prop, (∃ m, W 0 m (upd H1 D (.lst []))) ∧ ∀ i m H, W i m H →
  (J.stop i H ∧ Q (.ref D) H) ∨ (J.go i H ∧ ∃ Nx : Hp → Prop, (∀ H', Nx H' → ∃ m', m' < m ∧ W (i + 1) m' H') ∧ ∀ x H', J.yld i H x H' → g x (wipe σ vs) H' fun σ2 H2 => wipe σ2 vs = wipe σ vs ∧ tt σ2 H2 fun b H3 =>
    if b = true then te σ2 H3 fun y H4 => ∃ acc, H4 D = some (.lst acc) ∧ acc.length < sizeLine ∧ Nx (upd H4 D (.lst (acc ++ [y]))) else Nx H3)
theorem tLc_eq {wi : TI} {g : TG} {tt : TT} {te : TE} {vs : List Nat} {σ : L2.St} {H : Hp} {Q : VK} : tLc wi g tt te vs σ H Q = wi σ H fun J H1 => ∀ D, H1 D = none → LcIt J g tt te vs σ H1 D Q := rfl
theorem lc_w {J : It} {n : Nat} {G : Hp → Prop} {Y : Nat → Hp → V → Hp → Prop} (w : Walk J n G Y) {g : TG} {tt : TT} {te : TE} {vs : List Nat} {σ : L2.St} {H1 : Hp} {D : Addr} {Q : VK} (Pv : Nat → Hp → Prop) (h0 : Pv 0 (upd H1 D (.lst []))) (hG : ∀ i H, i ≤ n → Pv i H → G H)
    (hs : ∀ i x H H', i < n → Pv i H → Y i H x H' → g x (wipe σ vs) H' fun σ2 H2 => wipe σ2 vs = wipe σ vs ∧ tt σ2 H2 fun b H3 =>
      if b = true then te σ2 H3 fun y H4 => ∃ acc, H4 D = some (.lst acc) ∧ acc.length < sizeLine ∧ Pv (i + 1) (upd H4 D (.lst (acc ++ [y]))) else Pv (i + 1) H3) (hd : ∀ H, Pv n H → Q (.ref D) H) : LcIt J g tt te vs σ H1 D Q := lc_it (Qd := Q (.ref D)) w Pv h0 hG hs hd
theorem range_fm {α : Type} (f : Nat → Option α) (n : Nat) : (List.range (n + 1)).filterMap f = (List.range n).filterMap f ++ (f n).toList := by
  rw [List.range_succ, List.filterMap_append]
  cases e : f n with
  | none => simp [e]
  | some v => simp [e]
theorem fm_len {α : Type} (f : Nat → Option α) (n : Nat) : ((List.range n).filterMap f).length ≤ n := by
  have := List.length_filterMap_le f (List.range n)
  rw [List.length_range] at this
  exact this
/-- a comprehension whose turns are told by a function: what is made at turn i, if anything. C, C': what follows -/
theorem lc_fm {J : It} {n : Nat} {G : Hp → Prop} {Y : Nat → Hp → V → Hp → Prop} (w : Walk J n G Y) {g : TG} {tt : TT} {te : TE} {vs : List Nat} {σ : L2.St} {H1 : Hp} {D : Addr} {Q : VK} (f : Nat → Option V) (hD : H1 D = none) (hz : n ≤ 16000000) (hG : ∀ H, Same H1 H → G H)
    (hs : ∀ i x H H' (C : V → Hp → Prop) (C' : Hp → Prop), i < n → Same H1 H → Y i H x H' → Same H1 H' → (∀ v H4, f i = some v → Same H' H4 → C v H4) → (∀ H4, f i = none → Same H' H4 → C' H4) → g x (wipe σ vs) H' fun σ2 H2 => wipe σ2 vs = wipe σ vs ∧ tt σ2 H2 fun b H3 => if b = true then te σ2 H3 C else C' H3)
    (hY : ∀ i H x H', Y i H x H' → Same H H')
    (hd : ∀ H, Same H1 H → H D = some (.lst ((List.range n).filterMap f)) → Q (.ref D) H) : LcIt J g tt te vs σ H1 D Q := by
  refine lc_w w (fun i H => Same H1 H ∧ H D = some (.lst ((List.range i).filterMap f))) ⟨Same.new hD, upd_same⟩ (fun i H _ h => hG H h.1) (fun i x H H' hi ⟨h1, h2⟩ y => ?_) (fun H ⟨h1, h2⟩ => hd H h1 h2)
  have hy := hY i H x H' y
  refine hs i x H H' _ _ hi h1 y (h1.trans hy) (fun v H4 e s4 => ⟨_, s4 _ _ (hy _ _ h2), ?_, Same.mut ((h1.trans hy).trans s4) hD, ?_⟩) (fun H4 e s4 => ⟨(h1.trans hy).trans s4, ?_⟩)
  · have := fm_len f i
    rw [sizeLine_eq]
    omega
  · rw [upd_same, range_fm, e]
    rfl
  · rw [range_fm, e, s4 _ _ (hy _ _ h2)]
    simp
theorem fm_map {α β : Type} (g : α → β) (f : Nat → Option α) : ∀ l : List Nat, l.filterMap (fun i => (f i).map g) = (l.filterMap f).map g
  | [] => rfl
  | i :: l => by
    cases e : f i with
    | none => rw [List.filterMap_cons_none (by rw [e]; rfl), List.filterMap_cons_none e, fm_map g f l]
    | some x => rw [List.filterMap_cons_some (by rw [e]; rfl), List.filterMap_cons_some e, fm_map g f l, List.map_cons]
/-- .. ints; .. truth values -/
theorem lc_il {J : It} {n : Nat} {G : Hp → Prop} {Y : Nat → Hp → V → Hp → Prop} (w : Walk J n G Y) {g : TG} {tt : TT} {te : TE} {vs : List Nat} {σ : L2.St} {H1 : Hp} {D : Addr} {Q : VK} (f : Nat → Option Int) (hD : H1 D = none) (hz : n ≤ 16000000) (hG : ∀ H, Same H1 H → G H)
    (hs : ∀ i x H H' (C : V → Hp → Prop) (C' : Hp → Prop), i < n → Same H1 H → Y i H x H' → Same H1 H' → (∀ v H4, f i = some v → Same H' H4 → C (.int v) H4) → (∀ H4, f i = none → Same H' H4 → C' H4) → g x (wipe σ vs) H' fun σ2 H2 => wipe σ2 vs = wipe σ vs ∧ tt σ2 H2 fun b H3 => if b = true then te σ2 H3 C else C' H3)
    (hY : ∀ i H x H', Y i H x H' → Same H H')
    (hd : ∀ H, Same H1 H → H D = some (IL ((List.range n).filterMap f)) → Q (.ref D) H) : LcIt J g tt te vs σ H1 D Q := by
  refine lc_fm w (fun i => (f i).map V.int) hD hz hG (fun i x H H' C C' hi h1 y h2 c c' => hs i x H H' C C' hi h1 y h2 (fun v H4 e s => c _ _ (by rw [e]; rfl) s) fun H4 e s => c' _ (by rw [e]; rfl) s) hY fun H s e => hd H s ?_
  rw [e, fm_map]
  rfl
theorem lc_bl {J : It} {n : Nat} {G : Hp → Prop} {Y : Nat → Hp → V → Hp → Prop} (w : Walk J n G Y) {g : TG} {te : TE} {vs : List Nat} {σ : L2.St} {H1 : Hp} {D : Addr} {Q : VK} (f : Nat → Bool) (hD : H1 D = none) (hz : n ≤ 16000000) (hG : ∀ H, Same H1 H → G H)
    (hs : ∀ i x H H' (C : V → Hp → Prop), i < n → Same H1 H → Y i H x H' → Same H1 H' → (∀ H4, Same H' H4 → C (.bl (f i)) H4) → g x (wipe σ vs) H' fun σ2 H2 => wipe σ2 vs = wipe σ vs ∧ te σ2 H2 C)
    (hY : ∀ i H x H', Y i H x H' → Same H H')
    (hd : ∀ H, Same H1 H → H D = some (BL ((List.range n).map f)) → Q (.ref D) H) : LcIt J g tYes te vs σ H1 D Q := by
  refine lc_fm w (fun i => some (V.bl (f i))) hD hz hG (fun i x H H' C C' hi h1 y h2 c c' => hs i x H H' C hi h1 y h2 fun H4 s => c _ _ rfl s) hY fun H s e => hd H s ?_
  rw [e]
  have := fm_map V.bl (fun i => some (f i)) (List.range n)
  simp only [Option.map_some] at this
  rw [this, List.filterMap_eq_map']
  rfl
theorem lc_mp {J : It} {n : Nat} {G : Hp → Prop} {Y : Nat → Hp → V → Hp → Prop} (w : Walk J n G Y) {g : TG} {te : TE} {vs : List Nat} {σ : L2.St} {H1 : Hp} {D : Addr} {Q : VK} (f : Nat → Int) (hD : H1 D = none) (hz : n ≤ 16000000) (hG : ∀ H, Same H1 H → G H)
    (hs : ∀ i x H H' (C : V → Hp → Prop), i < n → Same H1 H → Y i H x H' → Same H1 H' → (∀ H4, Same H' H4 → C (.int (f i)) H4) → g x (wipe σ vs) H' fun σ2 H2 => wipe σ2 vs = wipe σ vs ∧ te σ2 H2 C)
    (hY : ∀ i H x H', Y i H x H' → Same H H')
    (hd : ∀ H, Same H1 H → H D = some (IL ((List.range n).map f)) → Q (.ref D) H) : LcIt J g tYes te vs σ H1 D Q := by
  refine lc_il w (fun i => some (f i)) hD hz hG (fun i x H H' C C' hi h1 y h2 c c' => hs i x H H' C hi h1 y h2 fun H4 s => c _ _ rfl s) hY fun H s e => hd H s ?_
  rw [e, List.filterMap_eq_map']
/-- a comprehension whose turns make one reference each, of which Phi holds -/
theorem lc_rf {J : It} {n : Nat} {G : Hp → Prop} {Y : Nat → Hp → V → Hp → Prop} (w : Walk J n G Y) {g : TG} {te : TE} {vs : List Nat} {σ : L2.St} {H1 : Hp} {D : Addr} {Q : VK} (Phi : Nat → Addr → Hp → Prop) (hPhi : ∀ i a H H', Same H H' → Phi i a H → Phi i a H') (hD : H1 D = none) (hPhiD : ∀ i a H o, a ≠ D → Phi i a H → Phi i a (upd H D o)) (hz : n ≤ 16000000) (hG : ∀ H, Same H1 H → G H)
    (hs : ∀ i x H H' (C : V → Hp → Prop), i < n → Same H1 H → H D ≠ none → Y i H x H' → Same H1 H' → (∀ a H4, a ≠ D → Phi i a H4 → Same H' H4 → C (.ref a) H4) → g x (wipe σ vs) H' fun σ2 H2 => wipe σ2 vs = wipe σ vs ∧ te σ2 H2 C)
    (hY : ∀ i H x H', Y i H x H' → Same H H')
    (hd : ∀ H as, Same H1 H → as.length = n → H D = some (RL as) → (∀ i a, as[i]? = some a → a ≠ D ∧ Phi i a H) → Q (.ref D) H) : LcIt J g tYes te vs σ H1 D Q := by
  refine lc_w w (fun i H => Same H1 H ∧ ∃ as : List Addr, as.length = i ∧ H D = some (RL as) ∧ ∀ j a, as[j]? = some a → a ≠ D ∧ Phi j a H) ⟨Same.new hD, [], rfl, upd_same, fun j a e => by simp at e⟩ (fun i H _ h => hG H h.1) (fun i x H H' hi ⟨h1, as, hl, h2, h3⟩ y => ?_) (fun H ⟨h1, as, hl, h2, h3⟩ => hd H as h1 hl h2 h3)
  have hy := hY i H x H' y
  refine hs i x H H' _ hi h1 (by rw [h2]; exact fun z => nomatch z) y (h1.trans hy) fun a H4 hne hp s4 => ?_
  refine ⟨_, s4 _ _ (hy _ _ h2), ?_, Same.mut ((h1.trans hy).trans s4) hD, as ++ [a], by rw [List.length_append, hl]; rfl, ?_, fun j b e => ?_⟩
  · rw [List.length_map, sizeLine_eq]
    omega
  · rw [upd_same]
    unfold RL
    rw [List.map_append]
    rfl
  · rcases Nat.lt_or_ge j as.length with hj | hj
    · rw [List.getElem?_append_left hj] at e
      obtain ⟨n1, n2⟩ := h3 j b e
      exact ⟨n1, hPhiD _ _ _ _ n1 (hPhi _ _ _ _ (hy.trans s4) n2)⟩
    · rw [List.getElem?_append_right hj] at e
      have hj2 : j = i := by
        rcases Nat.lt_or_ge 0 (j - as.length) with z | z
        · rw [List.getElem?_eq_none (by simp; omega)] at e
          cases e
        · omega
      subst hj2
      rw [hl, Nat.sub_self] at e
      cases e
      exact ⟨hne, hPhiD _ _ _ _ hne hp⟩
/-! ### what is walked -/
def iIL (K : PySem.W.Frag) (tl : TE) : TI := fun σ H R => tl σ H fun x H1 => ∃ a ns, x = .ref a ∧ H1 a = some (IL ns) ∧ R (Itl K a) H1
theorem pi_IL {tg l : Expr} {tl : TE} (K : PySem.W.Frag) (hl : PE X l tl) (hK : X.K = K := by rfl) : PI X tg l (iIL K tl) := by
  subst hK
  have hm : PE X l (fun σ H Q => tl σ H fun x H1 => (∃ a ns, x = V.ref a ∧ H1 a = some (IL ns)) ∧ Q x H1) := PE.cond hl
  refine ⟨fun pins s σ H R I q => (pi_list hm).run pins s σ H R I ?_⟩
  have e : (fun (x : V) (H1 : Hp) => ∃ a ns, x = V.ref a ∧ H1 a = some (IL ns) ∧ R (Itl X.K a) H1) = fun x H1 => (∃ a ns, x = V.ref a ∧ H1 a = some (IL ns)) ∧ ∃ a, x = V.ref a ∧ (∃ xs, SqL X.K H1 a xs) ∧ R (Itl X.K a) H1 := by
    funext x H1
    refine propext ⟨fun ⟨a, ns, e1, e2, z⟩ => ⟨⟨a, ns, e1, e2⟩, a, e1, ⟨_, IL.sq e2⟩, z⟩, fun ⟨⟨a, ns, e1, e2⟩, a', e1', _, z⟩ => ?_⟩
    subst e1
    cases e1'
    exact ⟨a, ns, rfl, e2, z⟩
  show tl σ H _
  rw [← e]
  exact q
def iRL (K : PySem.W.Frag) (tl : TE) : TI := fun σ H R => tl σ H fun x H1 => ∃ a ns, x = .ref a ∧ H1 a = some (RL ns) ∧ R (Itl K a) H1
theorem pi_RL {tg l : Expr} {tl : TE} (K : PySem.W.Frag) (hl : PE X l tl) (hK : X.K = K := by rfl) : PI X tg l (iRL K tl) := by
  subst hK
  have hm : PE X l (fun σ H Q => tl σ H fun x H1 => (∃ a ns, x = V.ref a ∧ H1 a = some (RL ns)) ∧ Q x H1) := PE.cond hl
  refine ⟨fun pins s σ H R I q => (pi_list hm).run pins s σ H R I ?_⟩
  have e : (fun (x : V) (H1 : Hp) => ∃ a ns, x = V.ref a ∧ H1 a = some (RL ns) ∧ R (Itl X.K a) H1) = fun x H1 => (∃ a ns, x = V.ref a ∧ H1 a = some (RL ns)) ∧ ∃ a, x = V.ref a ∧ (∃ xs, SqL X.K H1 a xs) ∧ R (Itl X.K a) H1 := by
    funext x H1
    refine propext ⟨fun ⟨a, ns, e1, e2, z⟩ => ⟨⟨a, ns, e1, e2⟩, a, e1, ⟨_, RL.sq e2⟩, z⟩, fun ⟨⟨a, ns, e1, e2⟩, a', e1', _, z⟩ => ?_⟩
    subst e1
    cases e1'
    exact ⟨a, ns, rfl, e2, z⟩
  show tl σ H _
  rw [← e]
  exact q
/-! ### list(range(n)) -/
def tRangeL (te : TE) : TE := fun σ H Q => te σ H fun x H1 => ∃ n : Nat, x = .int (n : Int) ∧ n ≤ 100000 ∧ ∀ q, H1 q = none → Q (.ref q) (upd H1 q (IL ((List.range n).map fun (i : Nat) => (i : Int))))
theorem pe_rangeL {a : Expr} {ta : TE} {p1 p2 p pos : Pos} (hc : X.calm = true) (hg : Gl X "list") (hm : X.mg "list" = none) (hg2 : Gl X "range") (hm2 : X.mg "range" = none) (ha : PE X a ta) (na : starEach [a] X.env = (false, eval a X.env) :: starEach [] X.env := by rfl)
    (na2 : starEach [(.Call (.Name "range" p1) [a] [] p2)] X.env = (false, eval (.Call (.Name "range" p1) [a] [] p2) X.env) :: starEach [] X.env := by rfl) : PE X (.Call (.Name "list" p) [(.Call (.Name "range" p1) [a] [] p2)] [] pos) (tRangeL ta) := by
  have hm' : PE X a (fun σ H Q => ta σ H fun x H1 => (∃ n : Nat, x = V.int (n : Int) ∧ n ≤ 100000) ∧ Q x H1) := PE.cond ha
  refine ⟨fun pins s σ H Q I q => (pe_listRg (p := p) (pos := pos) hc hg hm (prg_1 (p := p1) (pos := p2) hg2 hm2 hm' na) na2).run pins s σ H Q I ?_⟩
  have e : (fun (x : V) (H1 : Hp) => ∃ n : Nat, x = V.int (n : Int) ∧ n ≤ 100000 ∧ ∀ q, H1 q = none → Q (.ref q) (upd H1 q (IL ((List.range n).map fun (i : Nat) => (i : Int))))) =
      fun x H1 => (∃ n : Nat, x = V.int (n : Int) ∧ n ≤ 100000) ∧ ∃ n : Int, x = V.int n ∧ RgOk 0 n ∧ ∀ q, H1 q = none → Q (.ref q) (upd H1 q (.lst (rgV 0 n))) := by
    funext x H1
    have er : ∀ n : Nat, rgV 0 (n : Int) = ((List.range n).map fun (i : Nat) => (i : Int)).map V.int := fun n => by
      unfold rgV
      rw [List.map_map]
      have e0 : (((n : Int) - 0).toNat) = n := by omega
      rw [e0]
      refine List.map_congr_left fun i _ => ?_
      simp
    refine propext ⟨fun ⟨n, e1, e2, z⟩ => ⟨⟨n, e1, e2⟩, n, e1, RgOk.of_le (by omega) (by omega) (by omega) (by omega), fun q hq => ?_⟩, fun ⟨⟨n, e1, e2⟩, m, e1', _, z⟩ => ⟨n, e1, e2, fun q hq => ?_⟩⟩
    · have := z q hq
      unfold IL at this
      rw [← er n] at this
      exact this
    · subst e1
      cases e1'
      have := z q hq
      unfold IL
      rw [← er n]
      exact this
  show ta σ H _
  rw [← e]
  exact q
theorem PA.cond {es : List Expr} {t : TA} {C : List V → Hp → Prop} (h : PA X es t) : PA X es (fun σ H Q => t σ H fun x H1 => C x H1 ∧ Q x H1) := ⟨fun pos pins s σ H Q I q => thn (h.run pos pins s σ H _ I q) fun u s1 ⟨x, H1, I1, r1, q1⟩ => ⟨x, H1, I1, r1, q1.2⟩⟩
def iEnR (K : PySem.W.Frag) (ta : TA) : TI := fun σ H R => ta σ H fun vs H1 => ∃ a ns, vs = [.ref a] ∧ H1 a = some (RL ns) ∧ R (Ite K a) H1
def iEnI (K : PySem.W.Frag) (ta : TA) : TI := fun σ H R => ta σ H fun vs H1 => ∃ a ns, vs = [.ref a] ∧ H1 a = some (IL ns) ∧ R (Ite K a) H1
def iZpR (K : PySem.W.Frag) (ta : TA) : TI := fun σ H R => ta σ H fun vs H1 => ∃ a b ns ms, vs = [.ref a, .ref b] ∧ H1 a = some (RL ns) ∧ H1 b = some (RL ms) ∧ R (Itz K a b) H1
def iZpI (K : PySem.W.Frag) (ta : TA) : TI := fun σ H R => ta σ H fun vs H1 => ∃ a b ns ms, vs = [.ref a, .ref b] ∧ H1 a = some (IL ns) ∧ H1 b = some (IL ms) ∧ R (Itz K a b) H1
section
variable {p pos tpos : Pos} {elts : List Expr} {kk : Nat} {e e2 : Expr} {ta : TA}
theorem pi_enR (K : PySem.W.Frag) (hg : Gl X "enumerate") (hm : X.mg "enumerate" = none) (ha : PA X [e] ta) (hs : starEach [e] X.env = [(false, eval e X.env)] := by rfl) (hK : X.K = K := by rfl) : PI X (.Tuple elts kk tpos) (.Call (.Name "enumerate" p) [e] [] pos) (iEnR K ta) := by
  subst hK
  have hm' : PA X [e] (fun σ H Q => ta σ H fun x H1 => (∃ a ns, x = [V.ref a] ∧ H1 a = some (RL ns)) ∧ Q x H1) := PA.cond ha
  refine ⟨fun pins s σ H R I q => (pi_enum hg hm hm' hs).run pins s σ H R I ?_⟩
  have w : (fun (x : List V) (H1 : Hp) => ∃ a ns, x = [V.ref a] ∧ H1 a = some (RL ns) ∧ R (Ite X.K a) H1) = fun x H1 => (∃ a ns, x = [V.ref a] ∧ H1 a = some (RL ns)) ∧ ∃ a xs, x = [V.ref a] ∧ SqL X.K H1 a xs ∧ R (Ite X.K a) H1 := by
    funext x H1
    refine propext ⟨fun ⟨a, ns, e1, e2, z⟩ => ⟨⟨a, ns, e1, e2⟩, a, _, e1, RL.sq e2, z⟩, fun ⟨⟨a, ns, e1, e2⟩, a', _, e1', _, z⟩ => ?_⟩
    subst e1
    cases e1'
    exact ⟨a, ns, rfl, e2, z⟩
  show ta σ H _
  rw [← w]
  exact q
theorem pi_enI (K : PySem.W.Frag) (hg : Gl X "enumerate") (hm : X.mg "enumerate" = none) (ha : PA X [e] ta) (hs : starEach [e] X.env = [(false, eval e X.env)] := by rfl) (hK : X.K = K := by rfl) : PI X (.Tuple elts kk tpos) (.Call (.Name "enumerate" p) [e] [] pos) (iEnI K ta) := by
  subst hK
  have hm' : PA X [e] (fun σ H Q => ta σ H fun x H1 => (∃ a ns, x = [V.ref a] ∧ H1 a = some (IL ns)) ∧ Q x H1) := PA.cond ha
  refine ⟨fun pins s σ H R I q => (pi_enum hg hm hm' hs).run pins s σ H R I ?_⟩
  have w : (fun (x : List V) (H1 : Hp) => ∃ a ns, x = [V.ref a] ∧ H1 a = some (IL ns) ∧ R (Ite X.K a) H1) = fun x H1 => (∃ a ns, x = [V.ref a] ∧ H1 a = some (IL ns)) ∧ ∃ a xs, x = [V.ref a] ∧ SqL X.K H1 a xs ∧ R (Ite X.K a) H1 := by
    funext x H1
    refine propext ⟨fun ⟨a, ns, e1, e2, z⟩ => ⟨⟨a, ns, e1, e2⟩, a, _, e1, IL.sq e2, z⟩, fun ⟨⟨a, ns, e1, e2⟩, a', _, e1', _, z⟩ => ?_⟩
    subst e1
    cases e1'
    exact ⟨a, ns, rfl, e2, z⟩
  show ta σ H _
  rw [← w]
  exact q
theorem pi_zpR (K : PySem.W.Frag) (hg : Gl X "zip") (hm : X.mg "zip" = none) (ha : PA X [e, e2] ta) (hs : starEach [e, e2] X.env = (false, eval e X.env) :: starEach [e2] X.env := by rfl) (hpl : (backTo pos (starEach [e2] X.env)).any (·.1) = false := by rfl) (hK : X.K = K := by rfl) : PI X (.Tuple elts kk tpos) (.Call (.Name "zip" p) [e, e2] [] pos) (iZpR K ta) := by
  subst hK
  have hm' : PA X [e, e2] (fun σ H Q => ta σ H fun x H1 => (∃ a b ns ms, x = [V.ref a, V.ref b] ∧ H1 a = some (RL ns) ∧ H1 b = some (RL ms)) ∧ Q x H1) := PA.cond ha
  refine ⟨fun pins s σ H R I q => (pi_zip hg hm hm' hs hpl).run pins s σ H R I ?_⟩
  have w : (fun (x : List V) (H1 : Hp) => ∃ a b ns ms, x = [V.ref a, V.ref b] ∧ H1 a = some (RL ns) ∧ H1 b = some (RL ms) ∧ R (Itz X.K a b) H1) = fun x H1 => (∃ a b ns ms, x = [V.ref a, V.ref b] ∧ H1 a = some (RL ns) ∧ H1 b = some (RL ms)) ∧ ∃ a b xs ys, x = [V.ref a, V.ref b] ∧ SqL X.K H1 a xs ∧ SqL X.K H1 b ys ∧ R (Itz X.K a b) H1 := by
    funext x H1
    refine propext ⟨fun ⟨a, b, ns, ms, e1, e2, e3, z⟩ => ⟨⟨a, b, ns, ms, e1, e2, e3⟩, a, b, _, _, e1, RL.sq e2, RL.sq e3, z⟩, fun ⟨⟨a, b, ns, ms, e1, e2, e3⟩, a', b', _, _, e1', _, _, z⟩ => ?_⟩
    subst e1
    cases e1'
    exact ⟨a, b, ns, ms, rfl, e2, e3, z⟩
  show ta σ H _
  rw [← w]
  exact q
theorem pi_zpI (K : PySem.W.Frag) (hg : Gl X "zip") (hm : X.mg "zip" = none) (ha : PA X [e, e2] ta) (hs : starEach [e, e2] X.env = (false, eval e X.env) :: starEach [e2] X.env := by rfl) (hpl : (backTo pos (starEach [e2] X.env)).any (·.1) = false := by rfl) (hK : X.K = K := by rfl) : PI X (.Tuple elts kk tpos) (.Call (.Name "zip" p) [e, e2] [] pos) (iZpI K ta) := by
  subst hK
  have hm' : PA X [e, e2] (fun σ H Q => ta σ H fun x H1 => (∃ a b ns ms, x = [V.ref a, V.ref b] ∧ H1 a = some (IL ns) ∧ H1 b = some (IL ms)) ∧ Q x H1) := PA.cond ha
  refine ⟨fun pins s σ H R I q => (pi_zip hg hm hm' hs hpl).run pins s σ H R I ?_⟩
  have w : (fun (x : List V) (H1 : Hp) => ∃ a b ns ms, x = [V.ref a, V.ref b] ∧ H1 a = some (IL ns) ∧ H1 b = some (IL ms) ∧ R (Itz X.K a b) H1) = fun x H1 => (∃ a b ns ms, x = [V.ref a, V.ref b] ∧ H1 a = some (IL ns) ∧ H1 b = some (IL ms)) ∧ ∃ a b xs ys, x = [V.ref a, V.ref b] ∧ SqL X.K H1 a xs ∧ SqL X.K H1 b ys ∧ R (Itz X.K a b) H1 := by
    funext x H1
    refine propext ⟨fun ⟨a, b, ns, ms, e1, e2, e3, z⟩ => ⟨⟨a, b, ns, ms, e1, e2, e3⟩, a, b, _, _, e1, IL.sq e2, IL.sq e3, z⟩, fun ⟨⟨a, b, ns, ms, e1, e2, e3⟩, a', b', _, _, e1', _, _, z⟩ => ?_⟩
    subst e1
    cases e1'
    exact ⟨a, b, ns, ms, rfl, e2, e3, z⟩
  show ta σ H _
  rw [← w]
  exact q
end
/-- e.f += 1 -/
def sAugT (C : Addr) (ta : TE) (f : Str) : TS := fun D σ H => ta σ H fun x H1 => ∃ a dx fs n, x = .ref a ∧ H1 a = some (.ins C dx fs) ∧ fs.lookup f = some (.int n) ∧ fs.length < 1000 ∧ D.nx σ (upd H1 a (.ins C dx (putF f (.int (n + 1)) fs)))
theorem ps_augT {C : Addr} {o value : Expr} {f : Str} {pos tpos : Pos} {ta : TE} (c : Cls X.K C) (n : NoAttr X.K C f) (ha : PE X o ta) (hv : PE X value (tC (.int 1))) : PS X (.AugAssign (.Attribute o f tpos) .Add value pos) (sAugT C ta f) := by
  have hm : PE X o (fun σ H Q => ta σ H fun x H1 => (∃ a dx fs n, x = V.ref a ∧ H1 a = some (HO.ins C dx fs) ∧ fs.lookup f = some (.int n)) ∧ Q x H1) := PE.cond ha
  refine ⟨fun pins s σ H D I q => (ps_fldaug hm hv in_add).run pins s σ H D I ?_⟩
  have e1 : (fun (x : V) (H1 : Hp) => ∃ a dx fs n, x = V.ref a ∧ H1 a = some (HO.ins C dx fs) ∧ fs.lookup f = some (.int n) ∧ fs.length < 1000 ∧ D.nx σ (upd H1 a (.ins C dx (putF f (.int (n + 1)) fs)))) =
      fun x H1 => (∃ a dx fs n, x = V.ref a ∧ H1 a = some (HO.ins C dx fs) ∧ fs.lookup f = some (.int n)) ∧ ∃ a E dx fs v, x = V.ref a ∧ H1 a = some (.ins E dx fs) ∧ Cls X.K E ∧ NoAttr X.K E f ∧ fs.lookup f = some v ∧
        tC (.int 1) σ H1 fun y H2 => L2.rAdd v y H2 fun z H3 => ∃ dx' fs', H3 a = some (.ins E dx' fs') ∧ fs'.length < 1000 ∧ D.nx σ (upd H3 a (.ins E dx' (putF f z fs'))) := by
    funext x H1
    refine propext ⟨fun ⟨a, dx, fs, m, e1, e2, e3, e4, z⟩ => ⟨⟨a, dx, fs, m, e1, e2, e3⟩, a, C, dx, fs, _, e1, e2, c, n, e3, m, 1, rfl, rfl, dx, fs, e2, e4, z⟩, fun ⟨⟨a, dx, fs, m, e1, e2, e3⟩, a', E, dx', fs', v, e1', e2', _, _, e3', i, j, ei, ej, dx2, fs2, e2'', e4, z⟩ => ?_⟩
    subst e1
    cases e1'
    rw [e2] at e2' e2''
    cases e2'
    cases e2''
    rw [e3] at e3'
    cases e3'
    cases ei
    cases ej
    exact ⟨a, dx, fs, m, rfl, e2, e3, e4, z⟩
  show ta σ H _
  rw [← e1]
  exact q
/-! ### a text in a list of lists of ints -/
def rInL : R2 := fun x y H Q => ∃ p q s as ls, x = .ref p ∧ y = .ref q ∧ H p = some (IL s) ∧ H q = some (RL as) ∧ Paired (fun a l => H a = some (IL l)) as ls ∧ Q (.bl (decide (s ∈ ls))) H
theorem dp_rl {K : PySem.W.Frag} {H : Hp} : ∀ {as : List Addr} {ls : List (List Int)}, Paired (fun a l => H a = some (IL l)) as ls → DpAll K H (as.map V.ref) (ls.map fun l => PyData.list (l.map PyData.int))
  | _, _, .nil => .nil
  | _, _, .cons h t => .cons (dp_il h) (dp_rl t)
theorem lay_ll : ∀ ls : List (List Int), PyData.canLayAll0 (ls.map fun l => PyData.list (l.map PyData.int)) = true
  | [] => by simp [PyData.canLayAll0]
  | n :: r => by simp [PyData.canLayAll0, PyData.canLay0, lay_ints n, lay_ll r]
theorem dep_ll : ∀ ls : List (List Int), PyData.depthAll (ls.map fun l => PyData.list (l.map PyData.int)) ≤ 3
  | [] => by simp [PyData.depthAll]
  | n :: r => by
    have h := dep_ll r
    have h2 := dep_ints n
    simp only [List.map_cons, PyData.depthAll, PyData.depth]
    omega
theorem shp_ll (ls : List (List Int)) : SeqAt.shaped (.list (ls.map fun l => PyData.list (l.map PyData.int))) = true := by
  have h := dep_ll ls
  show ((PyData.list (ls.map fun l => PyData.list (l.map PyData.int))).canLay0 && decide ((PyData.list (ls.map fun l => PyData.list (l.map PyData.int))).depth ≤ 64)) = true
  rw [Bool.and_eq_true]
  refine ⟨by simp only [PyData.canLay0]; exact lay_ll ls, decide_eq_true ?_⟩
  simp only [PyData.depth]
  omega
theorem any_ll (s : List Int) : ∀ ls : List (List Int), ((ls.map fun l => PyData.list (l.map PyData.int)).any fun z => PyData.eqv z (.list (s.map PyData.int))) = decide (s ∈ ls)
  | [] => by simp
  | l :: r => by
    have ih := any_ll s r
    rw [List.map_cons, List.any_cons, ih, eqv_il]
    by_cases e : l = s
    · subst e
      simp
    · have e2 : ¬ s = l := fun z => e z.symm
      simp [e, e2]
theorem op_inL (hu : X.A.units + 65 < cLine) : OpR X (compareOp .In) rInL := opr_imp (op_inD hu) fun x y H Q ⟨p, q, s, as, ls, e1, e2, h1, h2, h3, k⟩ =>
  ⟨_, _, by rw [e1]; exact dp_il h1, by rw [e2]; exact .lst (RL.sq h2) (dp_rl h3), shp_ints s, shp_ll ls, by rw [any_ll]; exact k⟩
end
theorem rEq_int {a b : Int} {H : Hp} {Q : VK} : L2.rEq (.int a) (.int b) H Q = Q (.bl (decide (a = b))) H := by simp [L2.rEq, scal]
theorem rNe_int {a b : Int} {H : Hp} {Q : VK} : L2.rNe (.int a) (.int b) H Q = Q (.bl (!decide (a = b))) H := by simp [L2.rNe, scal]
theorem ex_il {a : List Int} : (∃ x, IL a = HO.lst x) = True := eq_true ⟨_, rfl⟩
theorem ex_rl {a : List Addr} : (∃ x, RL a = HO.lst x) = True := eq_true ⟨_, rfl⟩
theorem ex_sl {a : List Str} : (∃ x, SL a = HO.lst x) = True := eq_true ⟨_, rfl⟩
/-! ### the walks -/
theorem walk_IL {K : PySem.W.Frag} {a : Addr} {ns : List Int} : Walk (Itl K a) ns.length (fun H => H a = some (IL ns)) (fun i H x H' => H' = H ∧ ∃ n, ns[i]? = some n ∧ x = .int n) := by
  have w := walk_list (K := K) (a := a) (xs := ns.map V.int)
  rw [List.length_map] at w
  refine w.mono (fun H h => IL.sq h) fun i H x H' hi _ ⟨e, y⟩ => ⟨e, get_int y⟩
theorem get_ref {ns : List Addr} {j : Nat} {z : V} (h : (ns.map V.ref)[j]? = some z) : ∃ n, ns[j]? = some n ∧ z = .ref n := by
  rw [List.getElem?_map] at h
  cases e : ns[j]? with
  | none =>
    rw [e] at h
    cases h
  | some n =>
    rw [e] at h
    exact ⟨n, rfl, (Option.some.inj h).symm⟩
theorem walk_RL {K : PySem.W.Frag} {a : Addr} {ns : List Addr} : Walk (Itl K a) ns.length (fun H => H a = some (RL ns)) (fun i H x H' => H' = H ∧ ∃ n, ns[i]? = some n ∧ x = .ref n) := by
  have w := walk_list (K := K) (a := a) (xs := ns.map V.ref)
  rw [List.length_map] at w
  refine w.mono (fun H h => RL.sq h) fun i H x H' hi _ ⟨e, y⟩ => ⟨e, get_ref y⟩
theorem walk_enR {K : PySem.W.Frag} {a : Addr} {ns : List Addr} : Walk (Ite K a) ns.length (fun H => H a = some (RL ns)) (fun i H x H' => ∃ T n, ns[i]? = some n ∧ x = .ref T ∧ H T = none ∧ H' = upd H T (.tup [.int (i : Nat), .ref n])) := by
  have w := walk_enum (K := K) (a := a) (xs := ns.map V.ref)
  rw [List.length_map] at w
  refine w.mono (fun H h => RL.sq h) fun i H x H' hi _ ⟨T, x1, y1, e1, e2, e3, e4, e5⟩ => ?_
  obtain ⟨n, hn, rfl⟩ := get_ref e5
  cases e4
  exact ⟨T, n, hn, e1, e2, e3⟩
theorem walk_enI {K : PySem.W.Frag} {a : Addr} {ns : List Int} : Walk (Ite K a) ns.length (fun H => H a = some (IL ns)) (fun i H x H' => ∃ T n, ns[i]? = some n ∧ x = .ref T ∧ H T = none ∧ H' = upd H T (.tup [.int (i : Nat), .int n])) := by
  have w := walk_enum (K := K) (a := a) (xs := ns.map V.int)
  rw [List.length_map] at w
  refine w.mono (fun H h => IL.sq h) fun i H x H' hi _ ⟨T, x1, y1, e1, e2, e3, e4, e5⟩ => ?_
  obtain ⟨n, hn, rfl⟩ := get_int e5
  cases e4
  exact ⟨T, n, hn, e1, e2, e3⟩
theorem walk_zpR {K : PySem.W.Frag} {a b : Addr} {ns ms : List Addr} : Walk (Itz K a b) (min ns.length ms.length) (fun H => H a = some (RL ns) ∧ H b = some (RL ms)) (fun i H x H' => ∃ T n m, ns[i]? = some n ∧ ms[i]? = some m ∧ x = .ref T ∧ H T = none ∧ H' = upd H T (.tup [.ref n, .ref m])) := by
  have w := walk_zip (K := K) (a := a) (b := b) (xs := ns.map V.ref) (ys := ms.map V.ref) (n := min ns.length ms.length) (by rw [List.length_map, List.length_map])
  refine w.mono (fun H h => ⟨RL.sq h.1, RL.sq h.2⟩) fun i H x H' hi _ ⟨T, x1, y1, e1, e2, e3, e4, e5⟩ => ?_
  obtain ⟨n, hn, rfl⟩ := get_ref e4
  obtain ⟨m, hm, rfl⟩ := get_ref e5
  exact ⟨T, n, m, hn, hm, e1, e2, e3⟩
theorem walk_zpI {K : PySem.W.Frag} {a b : Addr} {ns ms : List Int} : Walk (Itz K a b) (min ns.length ms.length) (fun H => H a = some (IL ns) ∧ H b = some (IL ms)) (fun i H x H' => ∃ T n m, ns[i]? = some n ∧ ms[i]? = some m ∧ x = .ref T ∧ H T = none ∧ H' = upd H T (.tup [.int n, .int m])) := by
  have w := walk_zip (K := K) (a := a) (b := b) (xs := ns.map V.int) (ys := ms.map V.int) (n := min ns.length ms.length) (by rw [List.length_map, List.length_map])
  refine w.mono (fun H h => ⟨IL.sq h.1, IL.sq h.2⟩) fun i H x H' hi _ ⟨T, x1, y1, e1, e2, e3, e4, e5⟩ => ?_
  obtain ⟨n, hn, rfl⟩ := get_int e4
  obtain ⟨m, hm, rfl⟩ := get_int e5
  exact ⟨T, n, m, hn, hm, e1, e2, e3⟩
/-! ### the fields of the objects -/
def tokF (k o : Int) (s : Addr) : List (Str × V) := [("kind", .int k), ("offset", .int o), ("signs", .ref s)]
def rdrF (t : Addr) (r : Int) : List (Str × V) := [("tokens", .ref t), ("read", .int r)]
def plyF (n : Addr) (k : Int) : List (Str × V) := [("name", .ref n), ("key", .int k)]
def tblF (p : Int) (d l : Addr) : List (Str × V) := [("prime", .int p), ("deck", .ref d), ("players", .ref l)]
def calF (o : Int) (n r : Addr) : List (Str × V) := [("operation", .int o), ("numbers", .ref n), ("rows", .ref r)]
def dskF (v : V) : List (Str × V) := [("table", v)]
section
variable {k o r p : Int} {s t n l d : Addr} {v u x : V}
theorem lk_tok1 : List.lookup ("kind" : Str) (tokF k o s) = some (.int k) := by rfl
theorem lk_tok2 : List.lookup ("offset" : Str) (tokF k o s) = some (.int o) := by rfl
theorem lk_tok3 : List.lookup ("signs" : Str) (tokF k o s) = some (.ref s) := by rfl
theorem lk_tok4 : List.lookup ("number" : Str) (tokF k o s) = none := by rfl
theorem lk_rdr1 : List.lookup ("tokens" : Str) (rdrF t r) = some (.ref t) := by rfl
theorem lk_rdr2 : List.lookup ("read" : Str) (rdrF t r) = some (.int r) := by rfl
theorem lk_rdr3 : List.lookup ("next_kind" : Str) (rdrF t r) = none := by rfl
theorem lk_rdr4 : List.lookup ("take" : Str) (rdrF t r) = none := by rfl
theorem lk_rdr5 : List.lookup ("take_word" : Str) (rdrF t r) = none := by rfl
theorem lk_ply1 : List.lookup ("name" : Str) (plyF n k) = some (.ref n) := by rfl
theorem lk_ply2 : List.lookup ("key" : Str) (plyF n k) = some (.int k) := by rfl
theorem lk_tbl1 : List.lookup ("prime" : Str) (tblF p d l) = some (.int p) := by rfl
theorem lk_tbl2 : List.lookup ("deck" : Str) (tblF p d l) = some (.ref d) := by rfl
theorem lk_tbl3 : List.lookup ("players" : Str) (tblF p d l) = some (.ref l) := by rfl
theorem lk_cal1 : List.lookup ("operation" : Str) (calF o n t) = some (.int o) := by rfl
theorem lk_cal2 : List.lookup ("numbers" : Str) (calF o n t) = some (.ref n) := by rfl
theorem lk_cal3 : List.lookup ("rows" : Str) (calF o n t) = some (.ref t) := by rfl
theorem lk_dsk1 : List.lookup ("table" : Str) (dskF v) = some v := by rfl
theorem lk_dsk2 : List.lookup ("load" : Str) (dskF v) = none := by rfl
theorem lk_dsk3 : List.lookup ("clear_all" : Str) (dskF v) = none := by rfl
theorem pt_tok : putF "signs" (.ref s) (putF "offset" (.int o) (putF "kind" (.int k) [])) = tokF k o s := by rfl
theorem pt_rdr : putF "read" (.int r) (putF "tokens" (.ref t) []) = rdrF t r := by rfl
theorem pt_rdr2 {q : Int} : putF "read" (.int q) (rdrF t r) = rdrF t q := by rfl
theorem pt_ply : putF "key" (.int k) (putF "name" (.ref n) []) = plyF n k := by rfl
theorem pt_tbl : putF "players" (.ref l) (putF "deck" (.ref d) (putF "prime" (.int p) [])) = tblF p d l := by rfl
theorem pt_cal : putF "rows" (.ref t) (putF "numbers" (.ref n) (putF "operation" (.int o) [])) = calF o n t := by rfl
theorem pt_dsk : putF "table" v [] = dskF v := by rfl
theorem pt_dsk2 : putF "table" v (dskF u) = dskF v := by rfl
theorem len_rdr : (rdrF t r).length = 2 := rfl
theorem len_dsk : (dskF v).length = 1 := rfl
end
end Cl
set_option Elab.async false
set_option linter.all false
set_option maxRecDepth 100000
set_option maxHeartbeats 4000000
namespace Cl
open PySem PySem.Spec PyProof.Rows L2
abbrev s_power_of : Stmt := top 3
theorem sc_power_of : FnScope ["base", "exponent", "prime", "found", "square", "rest"] ["base", "exponent", "prime"] (defScope s_power_of) := ⟨rfl, rfl, rfl, by decide +kernel, rfl, by decide +kernel, by decide +kernel⟩
abbrev s_common_divisor : Stmt := top 4
theorem sc_common_divisor : FnScope ["one", "other", "left", "right"] ["one", "other"] (defScope s_common_divisor) := ⟨rfl, rfl, rfl, by decide +kernel, rfl, by decide +kernel, by decide +kernel⟩
abbrev s_is_prime : Stmt := top 5
theorem sc_is_prime : FnScope ["number", "divisor"] ["number"] (defScope s_is_prime) := ⟨rfl, rfl, rfl, by decide +kernel, rfl, by decide +kernel, by decide +kernel⟩
abbrev s_half_of : Stmt := top 6
theorem sc_half_of : FnScope ["prime"] ["prime"] (defScope s_half_of) := ⟨rfl, rfl, rfl, by decide +kernel, rfl, by decide +kernel, by decide +kernel⟩
abbrev s_is_table_prime : Stmt := top 7
theorem sc_is_table_prime : FnScope ["number"] ["number"] (defScope s_is_table_prime) := ⟨rfl, rfl, rfl, by decide +kernel, rfl, by decide +kernel, by decide +kernel⟩
abbrev s_is_square : Stmt := top 8
theorem sc_is_square : FnScope ["number", "prime"] ["number", "prime"] (defScope s_is_square) := ⟨rfl, rfl, rfl, by decide +kernel, rfl, by decide +kernel, by decide +kernel⟩
abbrev s_is_card : Stmt := top 9
theorem sc_is_card : FnScope ["number", "prime"] ["number", "prime"] (defScope s_is_card) := ⟨rfl, rfl, rfl, by decide +kernel, rfl, by decide +kernel, by decide +kernel⟩
abbrev s_is_key : Stmt := top 10
theorem sc_is_key : FnScope ["number", "prime"] ["number", "prime"] (defScope s_is_key) := ⟨rfl, rfl, rfl, by decide +kernel, rfl, by decide +kernel, by decide +kernel⟩
abbrev s_cards_of : Stmt := top 11
theorem sc_cards_of : FnScope ["prime", "number"] ["prime"] (defScope s_cards_of) := ⟨rfl, rfl, rfl, by decide +kernel, rfl, by decide +kernel, by decide +kernel⟩
abbrev s_locked : Stmt := top 12
theorem sc_locked : FnScope ["card", "key", "prime"] ["card", "key", "prime"] (defScope s_locked) := ⟨rfl, rfl, rfl, by decide +kernel, rfl, by decide +kernel, by decide +kernel⟩
abbrev s_inverse_of : Stmt := top 13
theorem sc_inverse_of : FnScope ["key", "prime", "half", "other"] ["key", "prime"] (defScope s_inverse_of) := ⟨rfl, rfl, rfl, by decide +kernel, rfl, by decide +kernel, by decide +kernel⟩
abbrev s_joint_of : Stmt := top 14
theorem sc_joint_of : FnScope ["keys", "prime", "found", "key"] ["keys", "prime"] (defScope s_joint_of) := ⟨rfl, rfl, rfl, by decide +kernel, rfl, by decide +kernel, by decide +kernel⟩
abbrev s_Refused___init__ : Stmt := inClass (top 19) 0
theorem sc_Refused___init__ : FnScope ["self", "code"] ["self", "code"] (defScope s_Refused___init__) := ⟨rfl, rfl, rfl, by decide +kernel, rfl, by decide +kernel, by decide +kernel⟩
abbrev s_Spoilt___init__ : Stmt := inClass (top 20) 0
theorem sc_Spoilt___init__ : FnScope ["self", "code", "offset"] ["self", "code", "offset"] (defScope s_Spoilt___init__) := ⟨rfl, rfl, rfl, by decide +kernel, rfl, by decide +kernel, by decide +kernel⟩
abbrev s_need : Stmt := top 21
theorem sc_need : FnScope ["good"] ["good"] (defScope s_need) := ⟨rfl, rfl, rfl, by decide +kernel, rfl, by decide +kernel, by decide +kernel⟩
abbrev s_locked_row : Stmt := top 25
theorem sc_locked_row : FnScope ["row", "key", "prime", "card"] ["row", "key", "prime"] (defScope s_locked_row) := ⟨rfl, rfl, rfl, by decide +kernel, rfl, by decide +kernel, by decide +kernel⟩
abbrev s_shuffled : Stmt := top 26
theorem sc_shuffled : FnScope ["row", "key", "order", "prime", "place"] ["row", "key", "order", "prime"] (defScope s_shuffled) := ⟨rfl, rfl, rfl, by decide +kernel, rfl, by decide +kernel, by decide +kernel⟩
abbrev s_order_of : Stmt := top 27
theorem sc_order_of : FnScope ["row", "key", "cards", "prime", "found", "card"] ["row", "key", "cards", "prime"] (defScope s_order_of) := ⟨rfl, rfl, rfl, by decide +kernel, rfl, by decide +kernel, by decide +kernel⟩
abbrev s_errors_of : Stmt := top 28
theorem sc_errors_of : FnScope ["row", "key", "cards", "prime", "card"] ["row", "key", "cards", "prime"] (defScope s_errors_of) := ⟨rfl, rfl, rfl, by decide +kernel, rfl, by decide +kernel, by decide +kernel⟩
abbrev s_opened_place : Stmt := top 29
theorem sc_opened_place : FnScope ["row", "key", "card", "prime", "found"] ["row", "key", "card", "prime"] (defScope s_opened_place) := ⟨rfl, rfl, rfl, by decide +kernel, rfl, by decide +kernel, by decide +kernel⟩
abbrev s_factorial_of : Stmt := top 30
theorem sc_factorial_of : FnScope ["number", "found", "factor"] ["number"] (defScope s_factorial_of) := ⟨rfl, rfl, rfl, by decide +kernel, rfl, by decide +kernel, by decide +kernel⟩
abbrev s_are_different : Stmt := top 31
theorem sc_are_different : FnScope ["things", "at"] ["things"] (defScope s_are_different) := ⟨rfl, rfl, rfl, by decide +kernel, rfl, by decide +kernel, by decide +kernel⟩
abbrev s_parts_of : Stmt := top 32
theorem sc_parts_of : FnScope ["numbers", "size", "at"] ["numbers", "size"] (defScope s_parts_of) := ⟨rfl, rfl, rfl, by decide +kernel, rfl, by decide +kernel, by decide +kernel⟩
abbrev s_check_text : Stmt := top 36
theorem sc_check_text : FnScope ["text", "sign"] ["text"] (defScope s_check_text) := ⟨rfl, rfl, rfl, by decide +kernel, rfl, by decide +kernel, by decide +kernel⟩
abbrev s_check_card : Stmt := top 37
theorem sc_check_card : FnScope ["card", "table"] ["card", "table"] (defScope s_check_card) := ⟨rfl, rfl, rfl, by decide +kernel, rfl, by decide +kernel, by decide +kernel⟩
abbrev s_check_key : Stmt := top 38
theorem sc_check_key : FnScope ["key", "table"] ["key", "table"] (defScope s_check_key) := ⟨rfl, rfl, rfl, by decide +kernel, rfl, by decide +kernel, by decide +kernel⟩
abbrev s_check_keys : Stmt := top 39
theorem sc_check_keys : FnScope ["keys", "table", "key"] ["keys", "table"] (defScope s_check_keys) := ⟨rfl, rfl, rfl, by decide +kernel, rfl, by decide +kernel, by decide +kernel⟩
abbrev s_check_row : Stmt := top 40
theorem sc_check_row : FnScope ["row", "table", "card"] ["row", "table"] (defScope s_check_row) := ⟨rfl, rfl, rfl, by decide +kernel, rfl, by decide +kernel, by decide +kernel⟩
abbrev s_check_cards : Stmt := top 41
theorem sc_check_cards : FnScope ["cards", "many", "table", "card"] ["cards", "many", "table"] (defScope s_check_cards) := ⟨rfl, rfl, rfl, by decide +kernel, rfl, by decide +kernel, by decide +kernel⟩
abbrev s_check_order : Stmt := top 42
theorem sc_check_order : FnScope ["order", "many"] ["order", "many"] (defScope s_check_order) := ⟨rfl, rfl, rfl, by decide +kernel, rfl, by decide +kernel, by decide +kernel⟩
abbrev s_check_position : Stmt := top 43
theorem sc_check_position : FnScope ["position", "many"] ["position", "many"] (defScope s_check_position) := ⟨rfl, rfl, rfl, by decide +kernel, rfl, by decide +kernel, by decide +kernel⟩
abbrev s_check_revealed : Stmt := top 44
theorem sc_check_revealed : FnScope ["keys", "table"] ["keys", "table"] (defScope s_check_revealed) := ⟨rfl, rfl, rfl, by decide +kernel, rfl, by decide +kernel, by decide +kernel⟩
abbrev s_check_shown : Stmt := top 45
theorem sc_check_shown : FnScope ["shown", "many", "table", "position", "key"] ["shown", "many", "table"] (defScope s_check_shown) := ⟨rfl, rfl, rfl, by decide +kernel, rfl, by decide +kernel, by decide +kernel⟩
abbrev s_check_number : Stmt := top 46
theorem sc_check_number : FnScope ["number", "table"] ["number", "table"] (defScope s_check_number) := ⟨rfl, rfl, rfl, by decide +kernel, rfl, by decide +kernel, by decide +kernel⟩
abbrev s_check_exponent : Stmt := top 47
theorem sc_check_exponent : FnScope ["exponent", "table"] ["exponent", "table"] (defScope s_check_exponent) := ⟨rfl, rfl, rfl, by decide +kernel, rfl, by decide +kernel, by decide +kernel⟩
abbrev s_Token___init__ : Stmt := inClass (top 60) 0
theorem sc_Token___init__ : FnScope ["self", "kind", "offset", "signs"] ["self", "kind", "offset", "signs"] (defScope s_Token___init__) := ⟨rfl, rfl, rfl, by decide +kernel, rfl, by decide +kernel, by decide +kernel⟩
abbrev s_Token_number : Stmt := inClass (top 60) 1
theorem sc_Token_number : FnScope ["self", "found", "sign"] ["self"] (defScope s_Token_number) := ⟨rfl, rfl, rfl, by decide +kernel, rfl, by decide +kernel, by decide +kernel⟩
abbrev s_is_letter : Stmt := top 61
theorem sc_is_letter : FnScope ["sign"] ["sign"] (defScope s_is_letter) := ⟨rfl, rfl, rfl, by decide +kernel, rfl, by decide +kernel, by decide +kernel⟩
abbrev s_is_digit : Stmt := top 62
theorem sc_is_digit : FnScope ["sign"] ["sign"] (defScope s_is_digit) := ⟨rfl, rfl, rfl, by decide +kernel, rfl, by decide +kernel, by decide +kernel⟩
abbrev s_behind_letters : Stmt := top 63
theorem sc_behind_letters : FnScope ["text", "at", "end"] ["text", "at"] (defScope s_behind_letters) := ⟨rfl, rfl, rfl, by decide +kernel, rfl, by decide +kernel, by decide +kernel⟩
abbrev s_behind_digits : Stmt := top 64
theorem sc_behind_digits : FnScope ["text", "at", "end"] ["text", "at"] (defScope s_behind_digits) := ⟨rfl, rfl, rfl, by decide +kernel, rfl, by decide +kernel, by decide +kernel⟩
abbrev s_is_number : Stmt := top 65
theorem sc_is_number : FnScope ["signs"] ["signs"] (defScope s_is_number) := ⟨rfl, rfl, rfl, by decide +kernel, rfl, by decide +kernel, by decide +kernel⟩
abbrev s_token_at : Stmt := top 66
theorem sc_token_at : FnScope ["text", "at", "signs"] ["text", "at"] (defScope s_token_at) := ⟨rfl, rfl, rfl, by decide +kernel, rfl, by decide +kernel, by decide +kernel⟩
abbrev s_tokens_of : Stmt := top 67
theorem sc_tokens_of : FnScope ["text", "tokens", "at"] ["text"] (defScope s_tokens_of) := ⟨rfl, rfl, rfl, by decide +kernel, rfl, by decide +kernel, by decide +kernel⟩
abbrev s_Reader___init__ : Stmt := inClass (top 68) 0
theorem sc_Reader___init__ : FnScope ["self", "tokens"] ["self", "tokens"] (defScope s_Reader___init__) := ⟨rfl, rfl, rfl, by decide +kernel, rfl, by decide +kernel, by decide +kernel⟩
abbrev s_Reader_next_kind : Stmt := inClass (top 68) 1
theorem sc_Reader_next_kind : FnScope ["self"] ["self"] (defScope s_Reader_next_kind) := ⟨rfl, rfl, rfl, by decide +kernel, rfl, by decide +kernel, by decide +kernel⟩
abbrev s_Reader_take : Stmt := inClass (top 68) 2
theorem sc_Reader_take : FnScope ["self", "kind", "token"] ["self", "kind"] (defScope s_Reader_take) := ⟨rfl, rfl, rfl, by decide +kernel, rfl, by decide +kernel, by decide +kernel⟩
abbrev s_Reader_take_word : Stmt := inClass (top 68) 3
theorem sc_Reader_take_word : FnScope ["self", "signs", "token"] ["self", "signs"] (defScope s_Reader_take_word) := ⟨rfl, rfl, rfl, by decide +kernel, rfl, by decide +kernel, by decide +kernel⟩
abbrev s_Player___init__ : Stmt := inClass (top 79) 0
theorem sc_Player___init__ : FnScope ["self", "name", "key"] ["self", "name", "key"] (defScope s_Player___init__) := ⟨rfl, rfl, rfl, by decide +kernel, rfl, by decide +kernel, by decide +kernel⟩
abbrev s_Table___init__ : Stmt := inClass (top 80) 0
theorem sc_Table___init__ : FnScope ["self", "prime", "deck", "players"] ["self", "prime", "deck", "players"] (defScope s_Table___init__) := ⟨rfl, rfl, rfl, by decide +kernel, rfl, by decide +kernel, by decide +kernel⟩
abbrev s_signs_of : Stmt := top 81
theorem sc_signs_of : FnScope ["text", "letter"] ["text"] (defScope s_signs_of) := ⟨rfl, rfl, rfl, by decide +kernel, rfl, by decide +kernel, by decide +kernel⟩
abbrev s_read_prime : Stmt := top 82
theorem sc_read_prime : FnScope ["reader", "token"] ["reader"] (defScope s_read_prime) := ⟨rfl, rfl, rfl, by decide +kernel, rfl, by decide +kernel, by decide +kernel⟩
abbrev s_read_card : Stmt := top 83
theorem sc_read_card : FnScope ["reader", "prime", "deck", "token"] ["reader", "prime", "deck"] (defScope s_read_card) := ⟨rfl, rfl, rfl, by decide +kernel, rfl, by decide +kernel, by decide +kernel⟩
abbrev s_read_deck : Stmt := top 84
theorem sc_read_deck : FnScope ["reader", "prime", "deck"] ["reader", "prime"] (defScope s_read_deck) := ⟨rfl, rfl, rfl, by decide +kernel, rfl, by decide +kernel, by decide +kernel⟩
abbrev s_read_name : Stmt := top 85
theorem sc_read_name : FnScope ["reader", "players", "token", "word", "player"] ["reader", "players"] (defScope s_read_name) := ⟨rfl, rfl, rfl, by decide +kernel, rfl, by decide +kernel, by decide +kernel⟩
abbrev s_read_key : Stmt := top 86
theorem sc_read_key : FnScope ["reader", "prime", "token"] ["reader", "prime"] (defScope s_read_key) := ⟨rfl, rfl, rfl, by decide +kernel, rfl, by decide +kernel, by decide +kernel⟩
abbrev s_read_player : Stmt := top 87
theorem sc_read_player : FnScope ["reader", "prime", "players", "name", "key"] ["reader", "prime", "players"] (defScope s_read_player) := ⟨rfl, rfl, rfl, by decide +kernel, rfl, by decide +kernel, by decide +kernel⟩
abbrev s_read_table : Stmt := top 88
theorem sc_read_table : FnScope ["text", "reader", "prime", "deck", "players"] ["text"] (defScope s_read_table) := ⟨rfl, rfl, rfl, by decide +kernel, rfl, by decide +kernel, by decide +kernel⟩
abbrev s_line_of : Stmt := top 89
theorem sc_line_of : FnScope ["words"] ["words"] (defScope s_line_of) := ⟨rfl, rfl, rfl, by decide +kernel, rfl, by decide +kernel, by decide +kernel⟩
abbrev s_text_of : Stmt := top 90
theorem sc_text_of : FnScope ["table", "signs", "player", "card"] ["table"] (defScope s_text_of) := ⟨rfl, rfl, rfl, by decide +kernel, rfl, by decide +kernel, by decide +kernel⟩
abbrev s_keys_of : Stmt := top 91
theorem sc_keys_of : FnScope ["table", "player"] ["table"] (defScope s_keys_of) := ⟨rfl, rfl, rfl, by decide +kernel, rfl, by decide +kernel, by decide +kernel⟩
abbrev s_print_table : Stmt := top 93
theorem sc_print_table : FnScope ["table", "numbers", "rows"] ["table", "numbers", "rows"] (defScope s_print_table) := ⟨rfl, rfl, rfl, by decide +kernel, rfl, by decide +kernel, by decide +kernel⟩
abbrev s_status : Stmt := top 94
theorem sc_status : FnScope ["table", "numbers", "rows"] ["table", "numbers", "rows"] (defScope s_status) := ⟨rfl, rfl, rfl, by decide +kernel, rfl, by decide +kernel, by decide +kernel⟩
abbrev s_all_cards : Stmt := top 95
theorem sc_all_cards : FnScope ["table", "numbers", "rows", "found"] ["table", "numbers", "rows"] (defScope s_all_cards) := ⟨rfl, rfl, rfl, by decide +kernel, rfl, by decide +kernel, by decide +kernel⟩
abbrev s_lock : Stmt := top 96
theorem sc_lock : FnScope ["table", "numbers", "rows", "card", "key"] ["table", "numbers", "rows"] (defScope s_lock) := ⟨rfl, rfl, rfl, by decide +kernel, rfl, by decide +kernel, by decide +kernel⟩
abbrev s_unlock : Stmt := top 97
theorem sc_unlock : FnScope ["table", "numbers", "rows", "card", "key"] ["table", "numbers", "rows"] (defScope s_unlock) := ⟨rfl, rfl, rfl, by decide +kernel, rfl, by decide +kernel, by decide +kernel⟩
abbrev s_inverse_key : Stmt := top 98
theorem sc_inverse_key : FnScope ["table", "numbers", "rows"] ["table", "numbers", "rows"] (defScope s_inverse_key) := ⟨rfl, rfl, rfl, by decide +kernel, rfl, by decide +kernel, by decide +kernel⟩
abbrev s_joint_key : Stmt := top 99
theorem sc_joint_key : FnScope ["table", "numbers", "rows"] ["table", "numbers", "rows"] (defScope s_joint_key) := ⟨rfl, rfl, rfl, by decide +kernel, rfl, by decide +kernel, by decide +kernel⟩
abbrev s_check_lock : Stmt := top 100
theorem sc_check_lock : FnScope ["table", "numbers", "rows", "card", "other", "key"] ["table", "numbers", "rows"] (defScope s_check_lock) := ⟨rfl, rfl, rfl, by decide +kernel, rfl, by decide +kernel, by decide +kernel⟩
abbrev s_shuffle_row : Stmt := top 101
theorem sc_shuffle_row : FnScope ["table", "numbers", "rows", "row", "order"] ["table", "numbers", "rows"] (defScope s_shuffle_row) := ⟨rfl, rfl, rfl, by decide +kernel, rfl, by decide +kernel, by decide +kernel⟩
abbrev s_check_shuffle : Stmt := top 102
theorem sc_check_shuffle : FnScope ["table", "numbers", "rows", "row", "cards", "order"] ["table", "numbers", "rows"] (defScope s_check_shuffle) := ⟨rfl, rfl, rfl, by decide +kernel, rfl, by decide +kernel, by decide +kernel⟩
abbrev s_check_symmetry : Stmt := top 103
theorem sc_check_symmetry : FnScope ["table", "numbers", "rows", "row", "order"] ["table", "numbers", "rows"] (defScope s_check_symmetry) := ⟨rfl, rfl, rfl, by decide +kernel, rfl, by decide +kernel, by decide +kernel⟩
abbrev s_audit_deal : Stmt := top 104
theorem sc_audit_deal : FnScope ["table", "numbers", "rows", "revealed", "lists", "many", "row", "orders", "player", "cards", "order"] ["table", "numbers", "rows"] (defScope s_audit_deal) := ⟨rfl, rfl, rfl, by decide +kernel, rfl, by decide +kernel, by decide +kernel⟩
abbrev s_remaining_orders : Stmt := top 105
theorem sc_remaining_orders : FnScope ["table", "numbers", "rows", "row", "cards", "shown", "places", "count", "position", "key"] ["table", "numbers", "rows"] (defScope s_remaining_orders) := ⟨rfl, rfl, rfl, by decide +kernel, rfl, by decide +kernel, by decide +kernel⟩
abbrev s_deal : Stmt := top 106
theorem sc_deal : FnScope ["table", "numbers", "rows", "many", "row", "player", "order"] ["table", "numbers", "rows"] (defScope s_deal) := ⟨rfl, rfl, rfl, by decide +kernel, rfl, by decide +kernel, by decide +kernel⟩
abbrev s_check_orders : Stmt := top 107
theorem sc_check_orders : FnScope ["numbers", "many", "players", "order"] ["numbers", "many", "players"] (defScope s_check_orders) := ⟨rfl, rfl, rfl, by decide +kernel, rfl, by decide +kernel, by decide +kernel⟩
abbrev s_opened : Stmt := top 108
theorem sc_opened : FnScope ["table", "numbers", "rows", "joint", "card"] ["table", "numbers", "rows"] (defScope s_opened) := ⟨rfl, rfl, rfl, by decide +kernel, rfl, by decide +kernel, by decide +kernel⟩
abbrev s_audit_opening : Stmt := top 109
theorem sc_audit_opening : FnScope ["table", "numbers", "rows", "revealed", "cards", "announced", "card", "player", "other"] ["table", "numbers", "rows"] (defScope s_audit_opening) := ⟨rfl, rfl, rfl, by decide +kernel, rfl, by decide +kernel, by decide +kernel⟩
abbrev s_raised : Stmt := top 110
theorem sc_raised : FnScope ["table", "numbers", "rows", "number", "exponent", "power"] ["table", "numbers", "rows"] (defScope s_raised) := ⟨rfl, rfl, rfl, by decide +kernel, rfl, by decide +kernel, by decide +kernel⟩
abbrev s_Call___init__ : Stmt := inClass (top 119) 0
theorem sc_Call___init__ : FnScope ["self", "operation", "numbers", "rows"] ["self", "operation", "numbers", "rows"] (defScope s_Call___init__) := ⟨rfl, rfl, rfl, by decide +kernel, rfl, by decide +kernel, by decide +kernel⟩
abbrev s_Desk___init__ : Stmt := inClass (top 120) 0
theorem sc_Desk___init__ : FnScope ["self"] ["self"] (defScope s_Desk___init__) := ⟨rfl, rfl, rfl, by decide +kernel, rfl, by decide +kernel, by decide +kernel⟩
abbrev s_Desk_load : Stmt := inClass (top 120) 1
theorem sc_Desk_load : FnScope ["self", "text", "table"] ["self", "text"] (defScope s_Desk_load) := ⟨rfl, rfl, rfl, by decide +kernel, rfl, by decide +kernel, by decide +kernel⟩
abbrev s_Desk_clear_all : Stmt := inClass (top 120) 2
theorem sc_Desk_clear_all : FnScope ["self"] ["self"] (defScope s_Desk_clear_all) := ⟨rfl, rfl, rfl, by decide +kernel, rfl, by decide +kernel, by decide +kernel⟩
abbrev s_read_call : Stmt := top 121
theorem sc_read_call : FnScope ["numbers", "at", "operation", "place", "given", "rows", "turn", "end"] ["numbers", "at"] (defScope s_read_call) := ⟨rfl, rfl, rfl, by decide +kernel, rfl, by decide +kernel, by decide +kernel⟩
abbrev s_read_calls : Stmt := top 122
theorem sc_read_calls : FnScope ["numbers", "calls", "at", "call"] ["numbers"] (defScope s_read_calls) := ⟨rfl, rfl, rfl, by decide +kernel, rfl, by decide +kernel, by decide +kernel⟩
abbrev s_fields_of : Stmt := top 123
theorem sc_fields_of : FnScope ["desk", "call", "deed"] ["desk", "call"] (defScope s_fields_of) := ⟨rfl, rfl, rfl, by decide +kernel, rfl, by decide +kernel, by decide +kernel⟩
abbrev s_answer_of : Stmt := top 124
theorem sc_answer_of : FnScope ["desk", "call", "fault", "refusal"] ["desk", "call"] (defScope s_answer_of) := ⟨rfl, rfl, rfl, by decide +kernel, rfl, by decide +kernel, by decide +kernel⟩
abbrev s_answers : Stmt := top 125
theorem sc_answers : FnScope ["calls", "desk", "found", "call", "answer"] ["calls"] (defScope s_answers) := ⟨rfl, rfl, rfl, by decide +kernel, rfl, by decide +kernel, by decide +kernel⟩
structure Ads where
  tok : Addr
  rdr : Addr
  ply : Addr
  tbl : Addr
  cal : Addr
  dsk : Addr
  ref : Addr
  spo : Addr
  d0 : Addr
  d1 : Addr
  d2 : Addr
  d3 : Addr
  d4 : Addr
  d5 : Addr
  d6 : Addr
  d7 : Addr
  d8 : Addr
  d9 : Addr
  d10 : Addr
  d11 : Addr
  d12 : Addr
  d13 : Addr
  d14 : Addr
  d15 : Addr
  d16 : Addr
  spaces : Addr
  quoted : Addr
  nums : Addr
  rws : Addr
  deeds : Addr
structure Txt (K : PySem.W.Frag) (mg : Str → Option Value) (A : Ads) : Prop where
  d_power_of : DefAt K mg "power_of" s_power_of ["base", "exponent", "prime"]
  d_common_divisor : DefAt K mg "common_divisor" s_common_divisor ["one", "other"]
  d_is_prime : DefAt K mg "is_prime" s_is_prime ["number"]
  d_half_of : DefAt K mg "half_of" s_half_of ["prime"]
  d_is_table_prime : DefAt K mg "is_table_prime" s_is_table_prime ["number"]
  d_is_square : DefAt K mg "is_square" s_is_square ["number", "prime"]
  d_is_card : DefAt K mg "is_card" s_is_card ["number", "prime"]
  d_is_key : DefAt K mg "is_key" s_is_key ["number", "prime"]
  d_cards_of : DefAt K mg "cards_of" s_cards_of ["prime"]
  d_locked : DefAt K mg "locked" s_locked ["card", "key", "prime"]
  d_inverse_of : DefAt K mg "inverse_of" s_inverse_of ["key", "prime"]
  d_joint_of : DefAt K mg "joint_of" s_joint_of ["keys", "prime"]
  e_Refused : ErrDef K mg "Refused" "Refused.__init__" A.ref s_Refused___init__ ["self", "code"]
  e_Spoilt : ErrDef K mg "Spoilt" "Spoilt.__init__" A.spo s_Spoilt___init__ ["self", "code", "offset"]
  d_need : DefAt K mg "need" s_need ["good"]
  d_locked_row : DefAt K mg "locked_row" s_locked_row ["row", "key", "prime"]
  d_shuffled : DefAt K mg "shuffled" s_shuffled ["row", "key", "order", "prime"]
  d_order_of : DefAt K mg "order_of" s_order_of ["row", "key", "cards", "prime"]
  d_errors_of : DefAt K mg "errors_of" s_errors_of ["row", "key", "cards", "prime"]
  d_opened_place : DefAt K mg "opened_place" s_opened_place ["row", "key", "card", "prime"]
  d_factorial_of : DefAt K mg "factorial_of" s_factorial_of ["number"]
  d_are_different : DefAt K mg "are_different" s_are_different ["things"]
  d_parts_of : DefAt K mg "parts_of" s_parts_of ["numbers", "size"]
  d_check_text : DefAt K mg "check_text" s_check_text ["text"]
  d_check_card : DefAt K mg "check_card" s_check_card ["card", "table"]
  d_check_key : DefAt K mg "check_key" s_check_key ["key", "table"]
  d_check_keys : DefAt K mg "check_keys" s_check_keys ["keys", "table"]
  d_check_row : DefAt K mg "check_row" s_check_row ["row", "table"]
  d_check_cards : DefAt K mg "check_cards" s_check_cards ["cards", "many", "table"]
  d_check_order : DefAt K mg "check_order" s_check_order ["order", "many"]
  d_check_position : DefAt K mg "check_position" s_check_position ["position", "many"]
  d_check_revealed : DefAt K mg "check_revealed" s_check_revealed ["keys", "table"]
  d_check_shown : DefAt K mg "check_shown" s_check_shown ["shown", "many", "table"]
  d_check_number : DefAt K mg "check_number" s_check_number ["number", "table"]
  d_check_exponent : DefAt K mg "check_exponent" s_check_exponent ["exponent", "table"]
  c_Token : ClsDef K mg "Token" "Token.__init__" A.tok s_Token___init__ ["self", "kind", "offset", "signs"]
  m_Token_number : MthDef K A.tok "number" "Token.number" s_Token_number ["self"]
  d_is_letter : DefAt K mg "is_letter" s_is_letter ["sign"]
  d_is_digit : DefAt K mg "is_digit" s_is_digit ["sign"]
  d_behind_letters : DefAt K mg "behind_letters" s_behind_letters ["text", "at"]
  d_behind_digits : DefAt K mg "behind_digits" s_behind_digits ["text", "at"]
  d_is_number : DefAt K mg "is_number" s_is_number ["signs"]
  d_token_at : DefAt K mg "token_at" s_token_at ["text", "at"]
  d_tokens_of : DefAt K mg "tokens_of" s_tokens_of ["text"]
  c_Reader : ClsDef K mg "Reader" "Reader.__init__" A.rdr s_Reader___init__ ["self", "tokens"]
  m_Reader_next_kind : MthDef K A.rdr "next_kind" "Reader.next_kind" s_Reader_next_kind ["self"]
  m_Reader_take : MthDef K A.rdr "take" "Reader.take" s_Reader_take ["self", "kind"]
  m_Reader_take_word : MthDef K A.rdr "take_word" "Reader.take_word" s_Reader_take_word ["self", "signs"]
  c_Player : ClsDef K mg "Player" "Player.__init__" A.ply s_Player___init__ ["self", "name", "key"]
  c_Table : ClsDef K mg "Table" "Table.__init__" A.tbl s_Table___init__ ["self", "prime", "deck", "players"]
  d_signs_of : DefAt K mg "signs_of" s_signs_of ["text"]
  d_read_prime : DefAt K mg "read_prime" s_read_prime ["reader"]
  d_read_card : DefAt K mg "read_card" s_read_card ["reader", "prime", "deck"]
  d_read_deck : DefAt K mg "read_deck" s_read_deck ["reader", "prime"]
  d_read_name : DefAt K mg "read_name" s_read_name ["reader", "players"]
  d_read_key : DefAt K mg "read_key" s_read_key ["reader", "prime"]
  d_read_player : DefAt K mg "read_player" s_read_player ["reader", "prime", "players"]
  d_read_table : DefAt K mg "read_table" s_read_table ["text"]
  d_line_of : DefAt K mg "line_of" s_line_of ["words"]
  d_text_of : DefAt K mg "text_of" s_text_of ["table"]
  d_keys_of : DefAt K mg "keys_of" s_keys_of ["table"]
  d_print_table : DefF K mg "print_table" A.d0 s_print_table ["table", "numbers", "rows"]
  d_status : DefF K mg "status" A.d1 s_status ["table", "numbers", "rows"]
  d_all_cards : DefF K mg "all_cards" A.d2 s_all_cards ["table", "numbers", "rows"]
  d_lock : DefF K mg "lock" A.d3 s_lock ["table", "numbers", "rows"]
  d_unlock : DefF K mg "unlock" A.d4 s_unlock ["table", "numbers", "rows"]
  d_inverse_key : DefF K mg "inverse_key" A.d5 s_inverse_key ["table", "numbers", "rows"]
  d_joint_key : DefF K mg "joint_key" A.d6 s_joint_key ["table", "numbers", "rows"]
  d_check_lock : DefF K mg "check_lock" A.d7 s_check_lock ["table", "numbers", "rows"]
  d_shuffle_row : DefF K mg "shuffle_row" A.d8 s_shuffle_row ["table", "numbers", "rows"]
  d_check_shuffle : DefF K mg "check_shuffle" A.d9 s_check_shuffle ["table", "numbers", "rows"]
  d_check_symmetry : DefF K mg "check_symmetry" A.d10 s_check_symmetry ["table", "numbers", "rows"]
  d_audit_deal : DefF K mg "audit_deal" A.d11 s_audit_deal ["table", "numbers", "rows"]
  d_remaining_orders : DefF K mg "remaining_orders" A.d12 s_remaining_orders ["table", "numbers", "rows"]
  d_deal : DefF K mg "deal" A.d13 s_deal ["table", "numbers", "rows"]
  d_check_orders : DefAt K mg "check_orders" s_check_orders ["numbers", "many", "players"]
  d_opened : DefF K mg "opened" A.d14 s_opened ["table", "numbers", "rows"]
  d_audit_opening : DefF K mg "audit_opening" A.d15 s_audit_opening ["table", "numbers", "rows"]
  d_raised : DefF K mg "raised" A.d16 s_raised ["table", "numbers", "rows"]
  c_Call : ClsDef K mg "Call" "Call.__init__" A.cal s_Call___init__ ["self", "operation", "numbers", "rows"]
  c_Desk : ClsDef K mg "Desk" "Desk.__init__" A.dsk s_Desk___init__ ["self"]
  m_Desk_load : MthDef K A.dsk "load" "Desk.load" s_Desk_load ["self", "text"]
  m_Desk_clear_all : MthDef K A.dsk "clear_all" "Desk.clear_all" s_Desk_clear_all ["self"]
  d_read_call : DefAt K mg "read_call" s_read_call ["numbers", "at"]
  d_read_calls : DefAt K mg "read_calls" s_read_calls ["numbers"]
  d_fields_of : DefAt K mg "fields_of" s_fields_of ["desk", "call"]
  d_answer_of : DefAt K mg "answer_of" s_answer_of ["desk", "call"]
  d_answers : DefAt K mg "answers" s_answers ["calls"]
  n_Token_kind : NoAttr K A.tok "kind"
  n_Token_offset : NoAttr K A.tok "offset"
  n_Token_signs : NoAttr K A.tok "signs"
  n_Reader_tokens : NoAttr K A.rdr "tokens"
  n_Reader_read : NoAttr K A.rdr "read"
  n_Player_name : NoAttr K A.ply "name"
  n_Player_key : NoAttr K A.ply "key"
  n_Table_prime : NoAttr K A.tbl "prime"
  n_Table_deck : NoAttr K A.tbl "deck"
  n_Table_players : NoAttr K A.tbl "players"
  n_Call_operation : NoAttr K A.cal "operation"
  n_Call_numbers : NoAttr K A.cal "numbers"
  n_Call_rows : NoAttr K A.cal "rows"
  n_Desk_table : NoAttr K A.dsk "table"
  n_Refused_code : NoAttr K A.ref "code"
  n_Spoilt_code : NoAttr K A.spo "code"
  n_Spoilt_offset : NoAttr K A.spo "offset"
  b_all : mg "all" = none
  b_enumerate : mg "enumerate" = none
  b_int : mg "int" = none
  b_len : mg "len" = none
  b_list : mg "list" = none
  b_ord : mg "ord" = none
  b_range : mg "range" = none
  b_sorted : mg "sorted" = none
  b_str : mg "str" = none
  b_zip : mg "zip" = none
  k_LEAST_PRIME : KInt mg "LEAST_PRIME" (11)
  k_GREATEST_PRIME : KInt mg "GREATEST_PRIME" (983)
  k_BAD_ARGUMENT : KInt mg "BAD_ARGUMENT" (-1)
  k_NOT_IN_DECK : KInt mg "NOT_IN_DECK" (-6)
  k_NO_TABLE : KInt mg "NO_TABLE" (-20)
  k_FEWEST : KInt mg "FEWEST" (1)
  k_MOST : KInt mg "MOST" (10)
  k_MOST_BYTES : KInt mg "MOST_BYTES" (800)
  k_MOST_KEYS : KInt mg "MOST_KEYS" (20)
  k_SPACES : KTup K mg "SPACES" A.spaces [.int 10, .int 32]
  k_SEMICOLON : KInt mg "SEMICOLON" (59)
  k_ZERO : KInt mg "ZERO" (48)
  k_LONGEST_WORD : KInt mg "LONGEST_WORD" (8)
  k_LONGEST_NUMBER : KInt mg "LONGEST_NUMBER" (3)
  k_WORD : KInt mg "WORD" (1)
  k_NUMBER : KInt mg "NUMBER" (2)
  k_MARK : KInt mg "MARK" (3)
  k_WRONG : KInt mg "WRONG" (4)
  k_END : KInt mg "END" (5)
  k_NOT_ALLOWED : KInt mg "NOT_ALLOWED" (1)
  k_MOST_CARDS : KInt mg "MOST_CARDS" (10)
  k_MOST_PLAYERS : KInt mg "MOST_PLAYERS" (4)
  k_TWICE : KInt mg "TWICE" (3)
  k_NOT_SUCH : KInt mg "NOT_SUCH" (4)
  k_PRIME : KStr mg "PRIME" "prime"
  k_DECK : KStr mg "DECK" "deck"
  k_PLAYER : KStr mg "PLAYER" "player"
  k_KEY : KStr mg "KEY" "key"
  k_QUOTED : KTup K mg "QUOTED" A.quoted [.str "prime", .str "deck", .str "player", .str "key"]
  k_LOAD : KInt mg "LOAD" (0)
  k_CHECK : KInt mg "CHECK" (1)
  k_CLEAR : KInt mg "CLEAR" (19)
  k_NUMBERS : KTup K mg "NUMBERS" A.nums [.int 0, .int 0, .int 0, .int 0, .int 0, .int 2, .int 2, .int 1, .int 0, .int 3, .int 1, .int 1, .int 1, .int 0, .int 0, .int 0, .int 1, .int 1, .int 2, .int 0]
  k_ROWS : KTup K mg "ROWS" A.rws [.int 1, .int 1, .int 0, .int 0, .int 0, .int 0, .int 0, .int 0, .int 1, .int 0, .int 2, .int 2, .int 1, .int 2, .int 3, .int 1, .int 1, .int 3, .int 0, .int 0]
  k_FIRST_DEED : KInt mg "FIRST_DEED" (2)
  k_DEEDS : KTup K mg "DEEDS" A.deeds [.ref A.d0, .ref A.d1, .ref A.d2, .ref A.d3, .ref A.d4, .ref A.d5, .ref A.d6, .ref A.d7, .ref A.d8, .ref A.d9, .ref A.d10, .ref A.d11, .ref A.d12, .ref A.d13, .ref A.d14, .ref A.d15, .ref A.d16]
  x_ref_spo : PySem.W.exmOne K (.ref A.ref) (.ref A.spo) = some false
end Cl
set_option Elab.async false
set_option linter.all false
set_option maxRecDepth 100000
set_option maxHeartbeats 4000000
namespace Cl
open PySem PySem.Spec PyProof.Rows L2
local macro_rules | `(tactic| walk_at "rd") => `(tactic| try simp only [tSeq, tAsg, tVar, tC, tOp, tTest, tIfS, tNext, tRet, tDrop, gName, rI0, rI, rU, tUn, rEq_int, rNe_int, tFn, tFnS, tCons, tNil, tChain, tAndV, tOrV, tNotV, tAnd, tOr, tNot, tB, tIf, L2.start, tFor_eq, tLc_eq, iIL, iRL, iRng1, iRng2, iRng3, iEnR, iEnI, iZpR, iZpI, iStr, iTup, rIxI, rIxR, rIxRL, rIxK, rSlI, tSl, tNoPart, tPart, rInI, rNotInI, rInK, rInT, rInF, rInL, rLenI, rLenR, rLenA, rListI, rSortI', rAllB, rEqI, rNeI, rCatI, rCatS, tLM, rAppI, rAppR, rExtI, rIdxI, tLstI, tLstS, tFldT, sFldT, gUnI, gUnR, gTupT, gCons, gNil, sAugT, tTup, tLst, tCB, tAug, ipI, tPar, tM1, tMth, tMk, tRz, tRangeL, tYes, allInts, tupInts, allStrs, tupStrs, L2.rIsN, tIsN, rgV,
  List.map_cons, List.map_nil, List.length_cons, List.length_nil, Nat.zero_add, Nat.reduceAdd, Nat.reduceSub, Nat.reduceLeDiff, Nat.sub_zero, List.replicate_succ, List.replicate_zero, List.cons_append, List.nil_append, List.append_nil, List.set_cons_zero, List.set_cons_succ, List.getElem?_cons_zero, List.getElem?_cons_succ, Option.some.injEq, exists_and_left, exists_and_right, exists_eq_left', exists_eq_left, ex_il, ex_rl, ex_sl, lk_tok1, lk_tok2, lk_tok3, lk_tok4, lk_rdr1, lk_rdr2, lk_rdr3, lk_rdr4, lk_rdr5, lk_ply1, lk_ply2, lk_tbl1, lk_tbl2, lk_tbl3, lk_cal1, lk_cal2, lk_cal3, lk_dsk1, lk_dsk2, lk_dsk3, pt_rdr2, pt_dsk2, len_rdr, len_dsk, Nat.reduceLT, HO.lst.injEq, Int.zero_add, exists_eq, exists_eq', V.int.injEq, V.ref.injEq, V.bl.injEq, V.str.injEq, List.cons.injEq, HO.ins.injEq, HO.tup.injEq, il_inj, rl_inj, sl_inj, bl_inj, and_assoc, true_and, and_true, decide_eq_true_eq, Bool.not_eq_true', decide_eq_false_iff_not, reduceCtorEq, upd_same, upd_old, Option.isSome_some, Option.isSome_none, ite_true, ite_false, wipe, *])
local macro_rules | `(tactic| walk_at "r0") => `(tactic| try simp only [tSeq, tAsg, tVar, tC, tOp, tTest, tIfS, tNext, tRet, tDrop, gName, rI0, rI, rU, tUn, rEq_int, rNe_int, tFn, tFnS, tCons, tNil, tChain, tAndV, tOrV, tNotV, tAnd, tOr, tNot, tB, tIf, L2.start, tFor_eq, tLc_eq, iIL, iRL, iRng1, iRng2, iRng3, iEnR, iEnI, iZpR, iZpI, iStr, iTup, rIxI, rIxR, rIxRL, rIxK, rSlI, tSl, tNoPart, tPart, rInI, rNotInI, rInK, rInT, rInF, rInL, rLenI, rLenR, rLenA, rListI, rSortI', rAllB, rEqI, rNeI, rCatI, rCatS, tLM, rAppI, rAppR, rExtI, rIdxI, tLstI, tLstS, tFldT, sFldT, gUnI, gUnR, gTupT, gCons, gNil, sAugT, tTup, tLst, tCB, tAug, ipI, tPar, tM1, tMth, tMk, tRz, tRangeL, tYes, allInts, tupInts, allStrs, tupStrs, L2.rIsN, tIsN, rgV,
  List.map_cons, List.map_nil, List.length_cons, List.length_nil, Nat.zero_add, Nat.reduceAdd, Nat.reduceSub, Nat.reduceLeDiff, Nat.sub_zero, List.replicate_succ, List.replicate_zero, List.cons_append, List.nil_append, List.append_nil, List.set_cons_zero, List.set_cons_succ, List.getElem?_cons_zero, List.getElem?_cons_succ, Option.some.injEq, exists_and_left, exists_and_right, exists_eq_left', exists_eq_left, ex_il, ex_rl, ex_sl, lk_tok1, lk_tok2, lk_tok3, lk_tok4, lk_rdr1, lk_rdr2, lk_rdr3, lk_rdr4, lk_rdr5, lk_ply1, lk_ply2, lk_tbl1, lk_tbl2, lk_tbl3, lk_cal1, lk_cal2, lk_cal3, lk_dsk1, lk_dsk2, lk_dsk3, pt_rdr2, pt_dsk2, len_rdr, len_dsk, Nat.reduceLT, HO.lst.injEq, Int.zero_add, exists_eq, exists_eq', V.int.injEq, V.ref.injEq, V.bl.injEq, V.str.injEq, List.cons.injEq, HO.ins.injEq, HO.tup.injEq, il_inj, rl_inj, sl_inj, bl_inj, and_assoc, true_and, and_true, decide_eq_true_eq, Bool.not_eq_true', decide_eq_false_iff_not, reduceCtorEq, upd_same, upd_old, Option.isSome_some, Option.isSome_none, ite_true, ite_false, wipe])
section
variable {P : Program} {w : World} {K : PySem.W.Frag} {mg : Str → Option Value} {base : Heap} {A : Ads}
theorem while_m {c : TT} {tb : TS} {D : Ends} {σ : L2.St} {H : Hp} (W : Nat → L2.St → Hp → Prop) (m0 : Nat) (h0 : W m0 σ H) (hs : ∀ m σ H, W m σ H → c σ H fun b H1 => if b = true then ∃ N : L2.St → Hp → Prop, (∀ σ' H', N σ' H' → ∃ m', m' < m ∧ W m' σ' H') ∧ tb { D with nx := N, ct := N, bk := D.nx } σ H1 else D.nx σ H1) : tWhile c tb D σ H := ⟨W, ⟨m0, h0⟩, hs⟩
theorem _root_.L2.Same.get {H H' : Hp} (s : Same H H') : ∀ a, (H a).isSome = true → H' a = H a := fun a h => by
  cases e : H a with
  | none => rw [e] at h; cases h
  | some o => exact s a o e
/-! ### powers -/
def sp_power : Sp := fun vs H Q _ => ∃ x k p : Nat, vs = [.int x, .int k, .int p] ∧ 2 ≤ p ∧ p ≤ 1000 ∧ k < 1048576 ∧ Q (.int (Vbndal.lockCard p x k : Nat)) H
theorem pow_odd {f s r : Nat} (h : r % 2 = 1) (p : Nat) : (f * s % p) * (s * s % p) ^ (r / 2) % p = f * s ^ r % p := by
  have e : r = 2 * (r / 2) + 1 := by omega
  have e2 : f * s ^ r = f * s * (s * s) ^ (r / 2) := by
    conv => lhs; rw [e]
    rw [Cm.sq_pow, Nat.pow_succ, Nat.mul_assoc, Nat.mul_comm s]
  rw [e2, Nat.mul_mod, Nat.mod_mod, ← Nat.pow_mod, ← Nat.mul_mod]
theorem pow_even {f s r : Nat} (h : r % 2 = 0) (p : Nat) : f * (s * s % p) ^ (r / 2) % p = f * s ^ r % p := by
  have e : r = 2 * (r / 2) := by omega
  have e2 : f * s ^ r = f * (s * s) ^ (r / 2) := by
    conv => lhs; rw [e]
    rw [Cm.sq_pow]
  rw [e2, Nat.mul_mod, ← Nat.pow_mod, ← Nat.mul_mod]
theorem cmul {a b : Nat} (h : a ≤ 1000000) : CMul (a : Int) b := .inl ⟨by omega, by omega⟩
theorem cdiv2 {a : Int} : CDiv a 2 := ⟨by decide, by decide⟩
theorem fn_power_of (T : Txt K mg A) : FnAt P w K mg base CX0 1 "power_of" ["base", "exponent", "prime"] sp_power := by
  refine T.d_power_of.fn sc_power_of (fun vs H Q E h => by obtain ⟨_, _, _, rfl, _⟩ := h; rfl) (fun f cdv Ar outer s H vs Q E hr h => ⟨_, (pss_cons (ps_set (i := 3) sc_power_of.nd rfl (.inl rfl) pe_int) (pss_cons (ps_set (i := 4) sc_power_of.nd rfl (.inl rfl) (pe_op op_mod (pv 0) (pv 2))) (pss_cons (ps_set (i := 5) sc_power_of.nd rfl (.inl rfl) (pv 1)) (pss_cons (ps_while PassesOwn.never (pt_cmpR op_gt (pv 5) pe_int (nomark _)) (pss_cons (ps_if (pt_cmpR op_eq (pe_op op_mod (pv 5) pe_int) pe_int (nomark _)) (pss_one (ps_set (i := 3) sc_power_of.nd rfl (.inl rfl) (pe_op op_mod (pe_op op_mul (pv 3) (pv 4)) (pv 2)))) pss_nil) (pss_cons (ps_set (i := 4) sc_power_of.nd rfl (.inl rfl) (pe_op op_mod (pe_op op_mul (pv 4) (pv 4)) (pv 2))) (pss_one (ps_set (i := 5) sc_power_of.nd rfl (.inl rfl) (pe_op op_fdiv (pv 5) pe_int)))))) (pss_one (ps_ret (pv 3))))))), ?_⟩)
  obtain ⟨x, k, p, rfl, hp, hp2, hk, q⟩ := h
  have hp0 : (0 : Int) < (p : Int) := by omega
  walk_at "rd"
  refine while_m (fun m σ H' => H' = H ∧ ∃ f s r : Nat, r = m ∧ σ = [some (.int x), some (.int k), some (.int p), some (.int f), some (.int s), some (.int r)] ∧ f < p ∧ s < p ∧ f * s ^ r % p = x ^ k % p) k ⟨rfl, 1, x % p, k, rfl, rfl, by omega, Nat.mod_lt _ (by omega), ?_⟩ ?_
  · rw [Nat.one_mul, ← Nat.pow_mod]
  · rintro m σ H' ⟨rfl, f, s, r, rfl, rfl, hf, hs, e⟩
    walk_at "r0"
    split
    · refine ⟨_, fun _ _ h => h, by decide, ?_⟩
      split
      · refine ⟨cmul (by omega), hp0, cmul (by omega), hp0, cdiv2, r / 2, by omega, rfl, f * s % p, s * s % p, rfl, Nat.mod_lt _ (by omega), Nat.mod_lt _ (by omega), ?_⟩
        rw [pow_odd (by omega), e]
      · refine ⟨cmul (by omega), hp0, cdiv2, r / 2, by omega, rfl, f, s * s % p, rfl, hf, Nat.mod_lt _ (by omega), ?_⟩
        rw [pow_even (by omega), e]
    · have r0 : r = 0 := by omega
      subst r0
      rw [Nat.pow_zero, Nat.mul_one, Nat.mod_eq_of_lt hf, ← Cm.lock_eq hk] at e
      rw [e]
      exact q
def sp_gcd : Sp := fun vs H Q _ => ∃ a b : Nat, vs = [.int a, .int b] ∧ Q (.int (Nat.gcd a b : Nat)) H
theorem fn_common_divisor (T : Txt K mg A) : FnAt P w K mg base CX0 1 "common_divisor" ["one", "other"] sp_gcd := by
  refine T.d_common_divisor.fn sc_common_divisor (fun vs H Q E h => by obtain ⟨_, _, rfl, _⟩ := h; rfl) (fun f cdv Ar outer s H vs Q E hr h => ⟨_, (pss_cons (ps_set (i := 2) sc_common_divisor.nd rfl (.inl rfl) (pv 0)) (pss_cons (ps_set (i := 3) sc_common_divisor.nd rfl (.inl rfl) (pv 1)) (pss_cons (ps_while PassesOwn.never (pt_cmpR op_gt (pv 3) pe_int (nomark _)) (pss_one (ps_par (i := 2) (j := 3) (by rfl) sc_common_divisor.nd rfl rfl (by decide) rfl rfl (pa_cons (pv 3) (pa_cons (pe_op op_mod (pv 2) (pv 3)) pa_nil)) (by rfl)))) (pss_one (ps_ret (pv 2)))))), ?_⟩)
  obtain ⟨a, b, rfl, q⟩ := h
  walk_at "rd"
  refine while_m (fun m σ H' => H' = H ∧ ∃ l r : Nat, r = m ∧ σ = [some (.int a), some (.int b), some (.int l), some (.int r)] ∧ Nat.gcd l r = Nat.gcd a b) b ⟨rfl, a, b, rfl, rfl, rfl⟩ ?_
  rintro m σ H' ⟨rfl, l, r, rfl, rfl, e⟩
  walk_at "r0"
  split
  · rename_i h0
    refine ⟨_, fun _ _ h => h, h0, l % r, Nat.mod_lt _ (by omega), rfl, r, rfl, ?_⟩
    rw [← e, Nat.gcd_comm l r, Nat.gcd_rec r l, Nat.gcd_comm]
  · have r0 : r = 0 := by omega
    subst r0
    rw [Nat.gcd_zero_right] at e
    rw [e]
    exact q
def sp_half : Sp := fun vs H Q _ => ∃ p : Nat, vs = [.int p] ∧ 1 ≤ p ∧ Q (.int ((p - 1) / 2 : Nat)) H
theorem fn_half_of (T : Txt K mg A) : FnAt P w K mg base CX0 1 "half_of" ["prime"] sp_half := by
  refine T.d_half_of.fn sc_half_of (fun vs H Q E h => by obtain ⟨_, rfl, _⟩ := h; rfl) (fun f cdv Ar outer s H vs Q E hr h => ⟨_, (pss_one (ps_ret (pe_op op_fdiv (pe_op op_sub (pv 0) pe_int) pe_int))), ?_⟩)
  obtain ⟨p, rfl, hp, q⟩ := h
  walk_at "rd"
  refine ⟨cdiv2, ?_⟩
  have e : ((p : Int) - 1) / 2 = (((p - 1) / 2 : Nat) : Int) := by omega
  rw [e]
  exact q
theorem all_range (n m : Nat) (h : n = m + 2) : Vbndal.isPrime n = (((List.range m).map fun (i : Nat) => decide (¬ ((n : Int) % (2 + (i : Int)) = 0))).all id) := by
  unfold Vbndal.isPrime
  rw [decide_eq_true (by omega : 2 ≤ n), Bool.true_and, Bool.eq_iff_iff, List.all_eq_true, List.all_eq_true]
  constructor
  · intro a b hb
    obtain ⟨i, hi, rfl⟩ := List.mem_map.mp hb
    have hi := List.mem_range.mp hi
    have := a (2 + i) (List.mem_range.mpr (by omega))
    simp only [Bool.or_eq_true, decide_eq_true_eq, bne_iff_ne] at this
    rcases this with z | z
    · omega
    · exact decide_eq_true fun e => z (by
        have e2 : ((n % (2 + i) : Nat) : Int) = 0 := by
          push_cast
          exact e
        omega)
  · intro a d hd
    have hd := List.mem_range.mp hd
    rcases Nat.lt_or_ge d 2 with z | z
    · simp [z]
    · have := a _ (List.mem_map.mpr ⟨d - 2, List.mem_range.mpr (by omega), rfl⟩)
      have := of_decide_eq_true this
      simp only [Bool.or_eq_true, decide_eq_true_eq, bne_iff_ne]
      refine .inr fun e => this ?_
      have e2 : (2 : Int) + ((d - 2 : Nat) : Int) = (d : Int) := by omega
      rw [e2]
      omega
theorem yfn_same {f : Nat → V} (i : Nat) (H : Hp) (x : V) (H' : Hp) (h : YFn f i H x H') : Same H H' := by
  rw [h.1]
  exact Same.refl _
def sp_isprime : Sp := fun vs H Q _ => ∃ n : Nat, vs = [.int n] ∧ n ≤ 1000 ∧ ∀ H', Same H H' → Q (.bl (Vbndal.isPrime n)) H'
theorem fn_is_prime (T : Txt K mg A) : FnAt P w K mg base CX0 1 "is_prime" ["number"] sp_isprime := by
  refine T.d_is_prime.fn sc_is_prime (fun vs H Q E h => by obtain ⟨_, rfl, _⟩ := h; rfl) (fun f cdv Ar outer s H vs Q E hr h => ⟨_, (pss_one (ps_ret (pe_and (pe_cmpR op_gt (pv 0) pe_int (nomark _)) (pe_one (pe_callB (all_B rfl) (by rfl) T.b_all (by decide +kernel) (pa_cons (pe_lc (own := [("divisor", 1)]) (g := gName 1) (tt := tYes) rfl sc_is_prime.nd (pi_range2 (by rfl) T.b_range (pa_cons pe_int (pa_cons (pv 0) pa_nil))) (blkOk_by (N := ["number", "divisor"]) (sc := defScope s_is_prime) (by decide +kernel)) (fun _ _ _ _ _ => (pg_name (i := 1) sc_is_prime.nd rfl (Or.inl rfl))) (fun _ _ _ _ _ => pts_nil) (fun _ _ _ _ _ => (pe_cmpR op_ne (pe_op op_mod (pv 0) (pv 1)) pe_int (nomark _)))) pa_nil)))))), ?_⟩)
  obtain ⟨n, rfl, hn, q⟩ := h
  walk_at "r0"
  split
  · rename_i h1
    refine ⟨by decide, by decide, by omega, by omega, fun D hD => ?_⟩
    refine lc_bl walk_range (fun i => decide (¬ ((n : Int) % (2 + (i : Int)) = 0))) hD (by omega) (fun _ _ => trivial) (fun i x H1 H' C hi s1 y s2 c => ?_) yfn_same fun H1 s1 e => ?_
    · obtain ⟨rfl, rfl⟩ := y
      walk_at "r0"
      refine ⟨by omega, ?_⟩
      have := c H' (Same.refl _)
      simpa using this
    · refine ⟨D, rfl, _, e, ?_⟩
      have e2 : (((n : Int) - 2).toNat) = n - 2 := by omega
      rw [e2, ← all_range n (n - 2) (by omega)]
      exact q _ s1
  · rename_i h1
    have : Vbndal.isPrime n = false := by
      unfold Vbndal.isPrime
      rw [decide_eq_false (by omega), Bool.false_and]
    rw [← this]
    exact q _ (Same.refl _)
def sp_tprime : Sp := fun vs H Q _ => ∃ n : Nat, vs = [.int n] ∧ n < 1000 ∧ ∀ H', Same H H' → Q (.bl (Cm.okP n)) H'
theorem fn_is_table_prime (T : Txt K mg A) : FnAt P w K mg base CX0 2 "is_table_prime" ["number"] sp_tprime := by
  refine T.d_is_table_prime.fn sc_is_table_prime (fun vs H Q E h => by obtain ⟨_, rfl, _⟩ := h; rfl) (fun f cdv Ar outer s H vs Q E hr h => ⟨_, (pss_cons (ps_if (pt_not (pt_chain op_le op_le (pe_ki T.k_LEAST_PRIME) (pv 0) (pe_ki T.k_GREATEST_PRIME))) (pss_one (ps_ret pe_bl)) pss_nil) (pss_one (ps_ret (pe_and (pe_fn (fn_is_prime T) (hr.mono (by decide)) pass0 (pa_cons (pv 0) pa_nil)) (pe_one (pe_fn (fn_is_prime T) (hr.mono (by decide)) pass0 (pa_cons (pe_fn (fn_half_of T) (hr.mono (by decide)) pass0 (pa_cons (pv 0) pa_nil)) pa_nil))))))), ?_⟩)
  obtain ⟨n, rfl, hn, q⟩ := h
  have hP := Cm.chkP_all n hn
  unfold Cm.chkP at hP
  rw [beq_iff_eq] at hP
  walk_at "r0"
  split
  · split
    · have e : Cm.okP n = false := by
        rw [hP, decide_eq_false (by omega : ¬ n ≤ 983), Bool.and_false, Bool.false_and]
      rw [← e]
      exact q _ (Same.refl _)
    · rw [decide_eq_true (by omega : 11 ≤ n), decide_eq_true (by omega : n ≤ 983), Bool.true_and, Bool.true_and] at hP
      refine ⟨n, rfl, by omega, fun H1 s1 => ⟨_, rfl, ?_⟩⟩
      cases e : Vbndal.isPrime n with
      | false =>
        rw [e, Bool.false_and] at hP
        rw [hP] at q
        exact q _ s1
      | true =>
        rw [e, Bool.true_and] at hP
        rw [hP] at q
        exact ⟨n, rfl, by omega, (n - 1) / 2, rfl, by omega, fun H2 s2 => q _ (s1.trans s2)⟩
  · have e : Cm.okP n = false := by
      rw [hP, decide_eq_false (by omega : ¬ 11 ≤ n), Bool.false_and, Bool.false_and]
    rw [← e]
    exact q _ (Same.refl _)
/-! ### squares, cards, keys -/
def isSq (p x : Nat) : Bool := decide (Vbndal.lockCard p x (p / 2) = 1)
def sp_issq : Sp := fun vs H Q _ => ∃ x p : Nat, vs = [.int x, .int p] ∧ Cm.Pr p ∧ Q (.bl (isSq p x)) H
theorem fn_is_square (T : Txt K mg A) : FnAt P w K mg base CX0 2 "is_square" ["number", "prime"] sp_issq := by
  refine T.d_is_square.fn sc_is_square (fun vs H Q E h => by obtain ⟨_, _, rfl, _⟩ := h; rfl) (fun f cdv Ar outer s H vs Q E hr h => ⟨_, (pss_one (ps_ret (pe_cmpR op_eq (pe_fn (fn_power_of T) (hr.mono (by decide)) pass0 (pa_cons (pv 0) (pa_cons (pe_fn (fn_half_of T) (hr.mono (by decide)) pass0 (pa_cons (pv 1) pa_nil)) (pa_cons (pv 1) pa_nil)))) pe_int (nomark _)))), ?_⟩)
  obtain ⟨x, p, rfl, hP, q⟩ := h
  have h1 := hP.lo
  have h2 := hP.hi
  have h3 := hP.half
  walk_at "r0"
  refine ⟨p, rfl, by omega, x, (p - 1) / 2, p, rfl, by omega, by omega, by omega, ?_⟩
  rw [h3]
  walk_at "r0"
  have e : decide (((Vbndal.lockCard p x (p / 2) : Nat) : Int) = 1) = isSq p x := by
    unfold isSq
    exact decide_eq_decide.mpr (by omega)
  rw [e]
  exact q
/-- a card, any number handed in -/
def isCa (p : Nat) (x : Int) : Bool := decide (2 ≤ x ∧ x < p) && isSq p x.toNat
def sp_iscard : Sp := fun vs H Q _ => ∃ (x : Int) (p : Nat), vs = [.int x, .int p] ∧ Cm.Pr p ∧ Q (.bl (isCa p x)) H
theorem fn_is_card (T : Txt K mg A) : FnAt P w K mg base CX0 3 "is_card" ["number", "prime"] sp_iscard := by
  refine T.d_is_card.fn sc_is_card (fun vs H Q E h => by obtain ⟨_, _, rfl, _⟩ := h; rfl) (fun f cdv Ar outer s H vs Q E hr h => ⟨_, (pss_one (ps_ret (pe_and (pe_chain op_le op_le pe_int (pv 0) (pe_op op_sub (pv 1) pe_int)) (pe_one (pe_fn (fn_is_square T) (hr.mono (by decide)) pass0 (pa_cons (pv 0) (pa_cons (pv 1) pa_nil))))))), ?_⟩)
  obtain ⟨x, p, rfl, hP, q⟩ := h
  have h1 := hP.lo
  walk_at "r0"
  split
  · split
    · refine ⟨x.toNat, p, by rw [Int.toNat_of_nonneg (by omega)], hP, ?_⟩
      have e : isCa p x = isSq p x.toNat := by
        unfold isCa
        rw [decide_eq_true (by omega), Bool.true_and]
      rw [← e]
      exact q
    · have e : isCa p x = false := by
        unfold isCa
        rw [decide_eq_false (by omega), Bool.false_and]
      rw [← e]
      exact q
  · have e : isCa p x = false := by
      unfold isCa
      rw [decide_eq_false (by omega), Bool.false_and]
    rw [← e]
    exact q
def isKe (p : Nat) (x : Int) : Bool := decide (1 ≤ x ∧ x < (p / 2 : Nat))
def sp_iskey : Sp := fun vs H Q _ => ∃ (x : Int) (p : Nat), vs = [.int x, .int p] ∧ Cm.Pr p ∧ Q (.bl (isKe p x)) H
theorem fn_is_key (T : Txt K mg A) : FnAt P w K mg base CX0 2 "is_key" ["number", "prime"] sp_iskey := by
  refine T.d_is_key.fn sc_is_key (fun vs H Q E h => by obtain ⟨_, _, rfl, _⟩ := h; rfl) (fun f cdv Ar outer s H vs Q E hr h => ⟨_, (pss_one (ps_ret (pe_chain op_le op_le pe_int (pv 0) (pe_op op_sub (pe_fn (fn_half_of T) (hr.mono (by decide)) pass0 (pa_cons (pv 1) pa_nil)) pe_int)))), ?_⟩)
  obtain ⟨x, p, rfl, hP, q⟩ := h
  have h1 := hP.lo
  have h3 := hP.half
  walk_at "r0"
  split
  · refine ⟨p, rfl, by omega, _, rfl, ?_⟩
    rw [h3]
    have e : decide (x ≤ ((p / 2 : Nat) : Int) - 1) = isKe p x := by
      unfold isKe
      exact decide_eq_decide.mpr (by omega)
    rw [e]
    exact q
  · have e : isKe p x = false := by
      unfold isKe
      exact decide_eq_false (by omega)
    rw [← e]
    exact q
theorem isSq_card {p x : Nat} (hP : Cm.Pr p) : Vbndal.isCard p x = (decide (2 ≤ x ∧ x < p) && isSq p x) := by
  unfold Vbndal.isCard isSq Vbndal.subgroupOrder
  congr 1
theorem isCa_card {p x : Nat} (hP : Cm.Pr p) : isCa p x = Vbndal.isCard p x := by
  rw [isSq_card hP]
  unfold isCa
  congr 1
  exact decide_eq_decide.mpr (by omega)
theorem isCa_nat {p : Nat} {x : Int} (h : isCa p x = true) : ∃ n : Nat, x = n := by
  unfold isCa at h
  rw [Bool.and_eq_true, decide_eq_true_eq] at h
  exact ⟨x.toNat, by omega⟩
theorem isKe_nat {p : Nat} {x : Int} (h : isKe p x = true) : ∃ n : Nat, x = n := by
  unfold isKe at h
  rw [decide_eq_true_eq] at h
  exact ⟨x.toNat, by omega⟩
theorem isKe_key {p x : Nat} : isKe p x = Vbndal.isKey p x := by
  unfold isKe Vbndal.isKey Vbndal.subgroupOrder
  exact decide_eq_decide.mpr (by omega)
def nI (l : List Nat) : List Int := l.map fun (n : Nat) => (n : Int)
theorem range_filter (p : Nat) (hP : Cm.Pr p) : (List.range (p - 2)).filterMap (fun (i : Nat) => if isCa p (2 + (i : Int)) = true then some (2 + (i : Int)) else none) = nI (Vbndal.allCards p) := by
  have hp := hP.lo
  obtain ⟨m, rfl⟩ : ∃ m, p = m + 2 := ⟨p - 2, by omega⟩
  have e : ∀ k, (List.range k).filterMap (fun (i : Nat) => if isCa (m + 2) (2 + (i : Int)) = true then some (2 + (i : Int)) else none) = nI ((List.range (k + 2)).filter (Vbndal.isCard (m + 2))) := by
    intro k
    induction k with
    | zero =>
      have e0 : Vbndal.isCard (m + 2) 0 = false := by simp [Vbndal.isCard]
      have e1 : Vbndal.isCard (m + 2) 1 = false := by simp [Vbndal.isCard]
      show [] = nI ((List.range 2).filter (Vbndal.isCard (m + 2)))
      have : List.range 2 = [0, 1] := rfl
      rw [this]
      simp [e0, e1, nI]
    | succ k ih =>
      have er : List.range (k + 1 + 2) = List.range (k + 2) ++ [k + 2] := List.range_succ
      rw [range_fm, ih, er, List.filter_append]
      unfold nI
      rw [List.map_append]
      congr 1
      have e2 : (2 : Int) + (k : Int) = ((k + 2 : Nat) : Int) := by omega
      rw [e2, isCa_card hP]
      cases e3 : Vbndal.isCard (m + 2) (k + 2) <;> simp [e3]
  have := e m
  unfold Vbndal.allCards
  exact this
def sp_cardsof : Sp := fun vs H Q _ => ∃ p : Nat, vs = [.int p] ∧ Cm.Pr p ∧ ∀ H' b, Same H H' → H' b = some (IL (nI (Vbndal.allCards p))) → Q (.ref b) H'
theorem fn_cards_of (T : Txt K mg A) : FnAt P w K mg base CX0 4 "cards_of" ["prime"] sp_cardsof := by
  refine T.d_cards_of.fn sc_cards_of (fun vs H Q E h => by obtain ⟨_, rfl, _⟩ := h; rfl) (fun f cdv Ar outer s H vs Q E hr h => ⟨_, (pss_one (ps_ret (pe_lc (own := [("number", 1)]) (g := gName 1) rfl sc_cards_of.nd (pi_range2 (by rfl) T.b_range (pa_cons pe_int (pa_cons (pv 0) pa_nil))) (blkOk_by (N := ["prime", "number"]) (sc := defScope s_cards_of) (by decide +kernel)) (fun _ _ _ _ _ => (pg_name (i := 1) sc_cards_of.nd rfl (Or.inl rfl))) (fun _ _ _ _ _ => (pts_one (pt_val (pe_fn (fn_is_card T) (hr.mono (by decide)) pass0 (pa_cons (pv 1) (pa_cons (pv 0) pa_nil)))))) (fun _ _ _ _ _ => (pv 1))))), ?_⟩)
  obtain ⟨p, rfl, hP, q⟩ := h
  have h1 := hP.lo
  have h2 := hP.hi
  walk_at "r0"
  refine ⟨by decide, by decide, by omega, by omega, fun D hD => ?_⟩
  refine lc_il walk_range (fun (i : Nat) => if isCa p (2 + (i : Int)) = true then some (2 + (i : Int)) else none) hD (by omega) (fun _ _ => trivial) (fun i x H1 H' C C' hi s1 y s2 c c' => ?_) yfn_same fun H1 s1 e => ?_
  · obtain ⟨rfl, rfl⟩ := y
    walk_at "r0"
    refine ⟨_, p, rfl, hP, _, rfl, ?_⟩
    cases e : isCa p (2 + (i : Int)) with
    | true =>
      rw [e] at c
      exact c _ _ rfl (Same.refl _)
    | false =>
      rw [e] at c'
      exact c' _ rfl (Same.refl _)
  · refine q _ _ s1 ?_
    have e2 : (((p : Int) - 2).toNat) = p - 2 := by omega
    rw [e2, range_filter p hP] at e
    exact e
def sp_locked : Sp := fun vs H Q _ => ∃ x k p : Nat, vs = [.int x, .int k, .int p] ∧ Cm.Pr p ∧ k < 1000 ∧ Q (.int (Vbndal.lockCard p x k : Nat)) H
theorem fn_locked (T : Txt K mg A) : FnAt P w K mg base CX0 2 "locked" ["card", "key", "prime"] sp_locked := by
  refine T.d_locked.fn sc_locked (fun vs H Q E h => by obtain ⟨_, _, _, rfl, _⟩ := h; rfl) (fun f cdv Ar outer s H vs Q E hr h => ⟨_, (pss_one (ps_ret (pe_fn (fn_power_of T) (hr.mono (by decide)) pass0 (pa_cons (pv 0) (pa_cons (pv 1) (pa_cons (pv 2) pa_nil)))))), ?_⟩)
  obtain ⟨x, k, p, rfl, hP, hk, q⟩ := h
  have h1 := hP.lo
  have h2 := hP.hi
  walk_at "r0"
  exact ⟨x, k, p, rfl, by omega, by omega, by omega, q⟩
def sp_inverse : Sp := fun vs H Q _ => ∃ k p : Nat, vs = [.int k, .int p] ∧ Cm.Pr p ∧ Cm.IsK p k ∧ Q (.int (Vbndal.inverseKey p k : Nat)) H
theorem fn_inverse_of (T : Txt K mg A) : FnAt P w K mg base CX0 2 "inverse_of" ["key", "prime"] sp_inverse := by
  refine T.d_inverse_of.fn sc_inverse_of (fun vs H Q E h => by obtain ⟨_, _, rfl, _⟩ := h; rfl) (fun f cdv Ar outer s H vs Q E hr h => ⟨_, (pss_cons (ps_set (i := 2) sc_inverse_of.nd rfl (.inl rfl) (pe_fn (fn_half_of T) (hr.mono (by decide)) pass0 (pa_cons (pv 1) pa_nil))) (pss_cons (ps_for PassesOwn.never rfl (pi_range2 (by rfl) T.b_range (pa_cons pe_int (pa_cons (pv 2) pa_nil))) (pg_name (i := 3) sc_inverse_of.nd rfl (Or.inl rfl)) (pss_one (ps_if (pt_cmpR op_eq (pe_op op_mod (pe_op op_mul (pv 0) (pv 3)) (pv 2)) pe_int (nomark _)) (pss_one (ps_ret (pv 3))) pss_nil))) (pss_one (ps_ret pe_non)))), ?_⟩)
  obtain ⟨k, p, rfl, hP, hk, q⟩ := h
  have h1 := hP.lo
  have h2 := hP.q491
  have h3 := hP.half
  have h5 := hk.hi
  have hi := Cm.inv_isK hP hk
  walk_at "r0"
  refine ⟨p, rfl, by omega, ?_⟩
  rw [h3]
  walk_at "r0"
  refine ⟨by decide, by decide, by omega, by omega, ?_⟩
  refine for_w walk_range (fun i σ H' => H' = H ∧ (∃ v, σ = [some (.int k), some (.int p), some (.int (p / 2 : Nat)), v]) ∧ i < Vbndal.inverseKey p k) ⟨rfl, ⟨_, rfl⟩, by have := hi.lo; omega⟩ (fun _ _ _ _ _ => trivial) (fun i x σ H1 H2 hlt hh y => ?_) fun σ H1 hh => ?_
  · obtain ⟨rfl, ⟨v, rfl⟩, hv⟩ := hh
    obtain ⟨rfl, rfl⟩ := y
    walk_at "r0"
    refine ⟨cmul (by omega), by omega, ?_⟩
    have e : (k : Int) * (1 + (i : Int)) % ((p / 2 : Nat) : Int) = ((k * (1 + i) % (p / 2) : Nat) : Int) := by
      push_cast
      rfl
    rw [e]
    split
    · rename_i h1
      have := Cm.inv_uniq hP hk (o := 1 + i) (by omega) (by omega)
      have e2 : (1 : Int) + (i : Int) = ((1 + i : Nat) : Int) := by omega
      rw [e2, this]
      exact q
    · rename_i hn
      have := Cm.inv_mul hP hk
      rcases Nat.lt_or_ge (i + 1) (Vbndal.inverseKey p k) with z | z
      · exact z
      · exfalso
        have z2 : Vbndal.inverseKey p k = 1 + i := by omega
        rw [z2] at this
        omega
  · obtain ⟨rfl, _, hv⟩ := hh
    have := hi.hi
    omega
def sp_joint : Sp := fun vs H Q _ => ∃ (a : Addr) (ks : List Nat) (p : Nat), vs = [.ref a, .int p] ∧ Cm.Pr p ∧ H a = some (IL (nI ks)) ∧ (∀ k ∈ ks, Cm.IsK p k) ∧ Q (.int (Vbndal.jointKey p ks : Nat)) H
theorem nI_get {l : List Nat} {i : Nat} {n : Int} (h : (nI l)[i]? = some n) : ∃ k, l[i]? = some k ∧ n = k := by
  unfold nI at h
  rw [List.getElem?_map] at h
  cases e : l[i]? with
  | none =>
    rw [e] at h
    cases h
  | some k =>
    rw [e] at h
    exact ⟨k, rfl, (Option.some.inj h).symm⟩
theorem nI_len (l : List Nat) : (nI l).length = l.length := by
  unfold nI
  rw [List.length_map]
theorem nI_getD (l : List Nat) (i : Nat) : (nI l).getD i 0 = ((l.getD i 0 : Nat) : Int) := by
  unfold nI
  rw [List.getD_eq_getElem?_getD, List.getD_eq_getElem?_getD, List.getElem?_map]
  cases l[i]? <;> rfl
theorem nI_inj {a b : List Nat} : (nI a = nI b) = (a = b) := by
  refine propext ⟨fun h => ?_, fun h => by rw [h]⟩
  have := congrArg (List.map Int.toNat) h
  unfold nI at this
  rw [List.map_map, List.map_map] at this
  have e : (Int.toNat ∘ fun (n : Nat) => (n : Int)) = id := by
    funext n
    rfl
  rw [e, List.map_id, List.map_id] at this
  exact this
theorem mem_of_get {α : Type} {l : List α} {i : Nat} {x : α} (h : l[i]? = some x) : x ∈ l := List.mem_of_getElem? h
theorem take_more {α : Type} {l : List α} {i : Nat} {x : α} (h : l[i]? = some x) : l.take (i + 1) = l.take i ++ [x] := by
  rw [List.take_add_one, h]
  rfl
theorem fn_joint_of (T : Txt K mg A) : FnAt P w K mg base CX0 2 "joint_of" ["keys", "prime"] sp_joint := by
  refine T.d_joint_of.fn sc_joint_of (fun vs H Q E h => by obtain ⟨_, _, _, rfl, _⟩ := h; rfl) (fun f cdv Ar outer s H vs Q E hr h => ⟨_, (pss_cons (ps_set (i := 2) sc_joint_of.nd rfl (.inl rfl) pe_int) (pss_cons (ps_for PassesOwn.never rfl (pi_IL K (pv 0)) (pg_name (i := 3) sc_joint_of.nd rfl (Or.inl rfl)) (pss_one (ps_set (i := 2) sc_joint_of.nd rfl (.inl rfl) (pe_op op_mod (pe_op op_mul (pv 2) (pv 3)) (pe_fn (fn_half_of T) (hr.mono (by decide)) pass0 (pa_cons (pv 1) pa_nil)))))) (pss_one (ps_ret (pv 2))))), ?_⟩)
  obtain ⟨a, ks, p, rfl, hP, ha, hk, q⟩ := h
  have h1 := hP.lo
  have h2 := hP.q491
  have h3 := hP.half
  walk_at "rd"
  refine for_w walk_IL (fun i σ H' => H' = H ∧ ∃ v, σ = [some (.ref a), some (.int p), some (.int (Vbndal.jointKey p (ks.take i) : Nat)), v]) ⟨rfl, _, rfl⟩ (fun i σ H' _ hh => by rw [hh.1]; exact ha) (fun i x σ H1 H2 hlt hh y => ?_) fun σ H1 hh => ?_
  · obtain ⟨rfl, v, rfl⟩ := hh
    obtain ⟨rfl, n, hn, rfl⟩ := y
    obtain ⟨k, hk1, rfl⟩ := nI_get hn
    have hj := Cm.joint_isK hP (ks := ks.take i) fun k hk2 => hk k (List.mem_of_mem_take hk2)
    have hj2 := hj.hi
    walk_at "r0"
    refine ⟨cmul (by omega), p, rfl, by omega, ?_⟩
    rw [h3]
    walk_at "r0"
    refine ⟨by omega, ?_⟩
    have e : Vbndal.jointKey p (ks.take (i + 1)) = Vbndal.jointKey p (ks.take i) * k % (p / 2) := by
      rw [take_more hk1]
      unfold Vbndal.jointKey Vbndal.subgroupOrder
      rw [List.foldl_append]
      rfl
    rw [e]
    push_cast
    rfl
  · obtain ⟨rfl, v, rfl⟩ := hh
    walk_at "r0"
    rw [nI_len, List.take_length]
    exact q
/-! ### refusals -/
def fsR (vs : List V) : List (Str × V) := [("code", vs.getD 0 .non)]
def fsS (vs : List V) : List (Str × V) := [("offset", vs.getD 1 .non), ("code", vs.getD 0 .non)]
theorem upd_swap {H : Hp} {a b : Addr} {o u : HO} (h : b ≠ a) : upd (upd H a o) b u = upd (upd H b u) a o := by
  funext c
  unfold upd
  by_cases e1 : c = b
  · subst e1
    rw [if_pos rfl, if_neg h, if_pos rfl]
  · rw [if_neg e1, if_neg e1]
theorem err_Refused (T : Txt K mg A) : ErrAt P w K mg base 1 "Refused" A.ref ["self", "code"] (spErr A.ref 1 fsR) := by
  refine T.e_Refused.mk_ sc_Refused___init__ (fun vs H Q E h => by obtain ⟨a, r, rfl, hl, _⟩ := h; rw [List.length_cons, hl]; rfl) (fun f cdv Ar outer s H vs Q E hr h => ⟨_, (pss_one (ps_ost (pv 0) (pv 1))), ?_⟩)
  obtain ⟨a, r, rfl, hl, ha, q⟩ := h
  match r, hl with
  | [v], _ => exact ⟨_, rfl, _, rfl, a, A.ref, rfl, T.e_Refused.ox, T.n_Refused_code, .inl ⟨ha, fun dx h1 h2 => q dx _ h1 h2 rfl⟩⟩
theorem err_Spoilt (T : Txt K mg A) : ErrAt P w K mg base 1 "Spoilt" A.spo ["self", "code", "offset"] (spErr A.spo 2 fsS) := by
  refine T.e_Spoilt.mk_ sc_Spoilt___init__ (fun vs H Q E h => by obtain ⟨a, r, rfl, hl, _⟩ := h; rw [List.length_cons, hl]; rfl) (fun f cdv Ar outer s H vs Q E hr h => ⟨_, (pss_cons (ps_ost (pv 0) (pv 1)) (pss_one (ps_ost (pv 0) (pv 2)))), ?_⟩)
  obtain ⟨a, r, rfl, hl, ha, q⟩ := h
  match r, hl with
  | [v, u], _ =>
    refine ⟨_, rfl, _, rfl, a, A.spo, rfl, T.e_Spoilt.ox, T.n_Spoilt_code, .inl ⟨ha, fun dx h1 h2 => ?_⟩⟩
    refine ⟨_, rfl, _, rfl, a, A.spo, rfl, T.e_Spoilt.ox, T.n_Spoilt_offset, .inr ⟨dx, [("code", v)], upd_same, (upd_ne h2).trans upd_same, (by show 1 ≤ 900; decide), q dx _ h1 h2 ?_⟩⟩
    rw [upd_swap h2, upd_upd]
    rfl
/-- refused with a code: nothing else has changed -/
def RefE (A : Ads) (code : Int) (H : Hp) (E : XK) : Prop := ∀ d H', Same H H' → H' d = some (.xd (fsR [.int code])) → E (.ref A.ref) (some d) H'
def SpoE (A : Ads) (code off : Int) (H : Hp) (E : XK) : Prop := ∀ d H', Same H H' → H' d = some (.xd (fsS [.int code, .int off])) → E (.ref A.spo) (some d) H'
theorem RefE.mono {A : Ads} {c : Int} {H H' : Hp} {E : XK} (h : RefE A c H E) (s : Same H H') : RefE A c H' E := fun d H2 s2 e => h d H2 (s.trans s2) e
theorem SpoE.mono {A : Ads} {c o : Int} {H H' : Hp} {E : XK} (h : SpoE A c o H E) (s : Same H H') : SpoE A c o H' E := fun d H2 s2 e => h d H2 (s.trans s2) e
theorem ref_end {A : Ads} {E : XK} {c : Int} {H : Hp} (h : RefE A c H E) : RzEnd A.ref E 1 fsR [.int c] H := rz_end (by decide) rfl h
theorem spo_end {A : Ads} {E : XK} {c o : Int} {H : Hp} (h : SpoE A c o H E) : RzEnd A.spo E 2 fsS [.int c, .int o] H := rz_end (by decide) rfl h
def sp_need (A : Ads) : Sp := fun vs H Q E => ∃ b, vs = [.bl b] ∧ (b = true → Q .non H) ∧ (b = false → RefE A (-1) H E)
theorem fn_need (T : Txt K mg A) : FnAt P w K mg base (L2.CX P w) 3 "need" ["good"] (sp_need A) := by
  refine T.d_need.fnX sc_need (fun vs H Q E h => by obtain ⟨_, rfl, _⟩ := h; rfl) (fun f cdv Ar outer s H vs Q E hr h => ⟨_, (pss_one (ps_if (pt_not (pt_val (pv 0))) (pss_one (ps_rz (err_Refused T) rfl (takes_of rfl rfl rfl rfl) (hr.mono (by decide)) (pa_cons (pe_ki T.k_BAD_ARGUMENT) pa_nil))) pss_nil)), ?_⟩)
  obtain ⟨b, rfl, q1, q2⟩ := h
  walk_at "r0"
  cases b with
  | true =>
    simp
    exact q1 rfl
  | false =>
    simp
    exact ref_end (q2 rfl)
/-! ### rows -/
theorem il_same {ns : List Int} (i : Nat) (H : Hp) (x : V) (H' : Hp) (h : H' = H ∧ ∃ n, ns[i]? = some n ∧ x = .int n) : Same H H' := by
  rw [h.1]
  exact Same.refl _
theorem rl_same {ns : List Addr} (i : Nat) (H : Hp) (x : V) (H' : Hp) (h : H' = H ∧ ∃ n, ns[i]? = some n ∧ x = .ref n) : Same H H' := by
  rw [h.1]
  exact Same.refl _
theorem range_map_get {α β : Type} (l : List α) (d : α) (f : α → β) : (List.range l.length).map (fun i => f (l.getD i d)) = l.map f := by
  apply List.ext_getElem
  · simp
  · intro i h1 h2
    simp at h1
    simp [List.getD_eq_getElem?_getD, h1]
def sp_lockrow : Sp := fun vs H Q _ => ∃ (a : Addr) (l : List Nat) (k p : Nat), vs = [.ref a, .int k, .int p] ∧ Cm.Pr p ∧ k < 1000 ∧ H a = some (IL (nI l)) ∧ l.length ≤ 1000 ∧ ∀ H' b, Same H H' → H' b = some (IL (nI (Cm.lockRow p k l))) → Q (.ref b) H'
theorem fn_locked_row (T : Txt K mg A) : FnAt P w K mg base CX0 3 "locked_row" ["row", "key", "prime"] sp_lockrow := by
  refine T.d_locked_row.fn sc_locked_row (fun vs H Q E h => by obtain ⟨_, _, _, _, rfl, _⟩ := h; rfl) (fun f cdv Ar outer s H vs Q E hr h => ⟨_, (pss_one (ps_ret (pe_lc (own := [("card", 3)]) (g := gName 3) (tt := tYes) rfl sc_locked_row.nd (pi_IL K (pv 0)) (blkOk_by (N := ["row", "key", "prime", "card"]) (sc := defScope s_locked_row) (by decide +kernel)) (fun _ _ _ _ _ => (pg_name (i := 3) sc_locked_row.nd rfl (Or.inl rfl))) (fun _ _ _ _ _ => pts_nil) (fun _ _ _ _ _ => (pe_fn (fn_locked T) (hr.mono (by decide)) pass0 (pa_cons (pv 3) (pa_cons (pv 1) (pa_cons (pv 2) pa_nil)))))))), ?_⟩)
  obtain ⟨a, l, k, p, rfl, hP, hk, ha, hl, q⟩ := h
  walk_at "rd"
  intro D hD
  refine lc_mp walk_IL (fun i => (Vbndal.lockCard p (l.getD i 0) k : Nat)) hD (by rw [nI_len]; omega) (fun H1 s => s _ _ ha) (fun i x H1 H' C hi s1 y s2 c => ?_) il_same fun H1 s1 e => ?_
  · obtain ⟨rfl, n, hn, rfl⟩ := y
    obtain ⟨m, hm, rfl⟩ := nI_get hn
    walk_at "r0"
    refine ⟨m, k, p, rfl, hP, hk, ?_⟩
    have := c H' (Same.refl _)
    rw [List.getD_eq_getElem?_getD, hm] at this
    exact this
  · refine q _ _ s1 ?_
    rw [e, nI_len]
    have := range_map_get l 0 (fun x => ((Vbndal.lockCard p x k : Nat) : Int))
    rw [this]
    unfold nI Cm.lockRow
    rw [List.map_map]
    rfl
def sp_shuffled : Sp := fun vs H Q _ => ∃ (a b : Addr) (l m : List Nat) (k p : Nat), vs = [.ref a, .int k, .ref b, .int p] ∧ Cm.Pr p ∧ k < 1000 ∧ H a = some (IL (nI l)) ∧ H b = some (IL (nI m)) ∧ m.length ≤ 1000 ∧ (∀ i ∈ m, i < l.length) ∧ ∀ H' b, Same H H' → H' b = some (IL (nI (Vbndal.shuffled p l m k))) → Q (.ref b) H'
theorem fn_shuffled (T : Txt K mg A) : FnAt P w K mg base CX0 3 "shuffled" ["row", "key", "order", "prime"] sp_shuffled := by
  refine T.d_shuffled.fn sc_shuffled (fun vs H Q E h => by obtain ⟨_, _, _, _, _, _, rfl, _⟩ := h; rfl) (fun f cdv Ar outer s H vs Q E hr h => ⟨_, (pss_one (ps_ret (pe_lc (own := [("place", 4)]) (g := gName 4) (tt := tYes) rfl sc_shuffled.nd (pi_IL K (pv 2)) (blkOk_by (N := ["row", "key", "order", "prime", "place"]) (sc := defScope s_shuffled) (by decide +kernel)) (fun _ _ _ _ _ => (pg_name (i := 4) sc_shuffled.nd rfl (Or.inl rfl))) (fun _ _ _ _ _ => pts_nil) (fun _ _ _ _ _ => (pe_fn (fn_locked T) (hr.mono (by decide)) pass0 (pa_cons (pe_ix ix_I (pv 0) (pv 4) (fun _ _ => rfl)) (pa_cons (pv 1) (pa_cons (pv 3) pa_nil)))))))), ?_⟩)
  obtain ⟨a, b, l, m, k, p, rfl, hP, hk, ha, hb, hl, hm, q⟩ := h
  walk_at "rd"
  intro D hD
  refine lc_mp walk_IL (fun i => (Vbndal.lockCard p (l.getD (m.getD i 0) 0) k : Nat)) hD (by rw [nI_len]; omega) (fun H1 s => s _ _ hb) (fun i x H1 H' C hi s1 y s2 c => ?_) il_same fun H1 s1 e => ?_
  · obtain ⟨rfl, n, hn, rfl⟩ := y
    obtain ⟨j, hj, rfl⟩ := nI_get hn
    have ha' := s2 _ _ ha
    have hjl := hm j (mem_of_get hj)
    walk_at "rd"
    refine ⟨by omega, by rw [nI_len]; omega, l.getD j 0, k, p, ?_, hP, hk, ?_⟩
    · rw [nI_getD, Int.toNat_natCast]
    · have := c H' (Same.refl _)
      rw [List.getD_eq_getElem?_getD (l := m), hj] at this
      exact this
  · refine q _ _ s1 ?_
    rw [e, nI_len]
    have := range_map_get m 0 (fun j => ((Vbndal.lockCard p (l.getD j 0) k : Nat) : Int))
    rw [this]
    unfold nI Vbndal.shuffled
    rw [List.map_map]
    rfl
end
end Cl
set_option Elab.async false
set_option linter.all false
set_option maxRecDepth 100000
set_option maxHeartbeats 4000000
namespace Cl
open PySem PySem.Spec PyProof.Rows L2
local macro_rules | `(tactic| walk_at "rd") => `(tactic| try simp only [tSeq, tAsg, tVar, tC, tOp, tTest, tIfS, tNext, tRet, tDrop, gName, rI0, rI, rU, tUn, rEq_int, rNe_int, tFn, tFnS, tCons, tNil, tChain, tAndV, tOrV, tNotV, tAnd, tOr, tNot, tB, tIf, L2.start, tFor_eq, tLc_eq, iIL, iRL, iRng1, iRng2, iRng3, iEnR, iEnI, iZpR, iZpI, iStr, iTup, rIxI, rIxR, rIxRL, rIxK, rSlI, tSl, tNoPart, tPart, rInI, rNotInI, rInK, rInT, rInF, rInL, rLenI, rLenR, rLenA, rListI, rSortI', rAllB, rEqI, rNeI, rCatI, rCatS, tLM, rAppI, rAppR, rExtI, rIdxI, tLstI, tLstS, tFldT, sFldT, gUnI, gUnR, gTupT, gCons, gNil, sAugT, tTup, tLst, tCB, tAug, ipI, tPar, tM1, tMth, tMk, tRz, tRangeL, tYes, allInts, tupInts, allStrs, tupStrs, L2.rIsN, tIsN, rgV,
  List.map_cons, List.map_nil, List.length_cons, List.length_nil, Nat.zero_add, Nat.reduceAdd, Nat.reduceSub, Nat.reduceLeDiff, Nat.sub_zero, List.replicate_succ, List.replicate_zero, List.cons_append, List.nil_append, List.append_nil, List.set_cons_zero, List.set_cons_succ, List.getElem?_cons_zero, List.getElem?_cons_succ, Option.some.injEq, exists_and_left, exists_and_right, exists_eq_left', exists_eq_left, ex_il, ex_rl, ex_sl, lk_tok1, lk_tok2, lk_tok3, lk_tok4, lk_rdr1, lk_rdr2, lk_rdr3, lk_rdr4, lk_rdr5, lk_ply1, lk_ply2, lk_tbl1, lk_tbl2, lk_tbl3, lk_cal1, lk_cal2, lk_cal3, lk_dsk1, lk_dsk2, lk_dsk3, pt_rdr2, pt_dsk2, len_rdr, len_dsk, Nat.reduceLT, HO.lst.injEq, Int.zero_add, exists_eq, exists_eq', V.int.injEq, V.ref.injEq, V.bl.injEq, V.str.injEq, List.cons.injEq, HO.ins.injEq, HO.tup.injEq, il_inj, rl_inj, sl_inj, bl_inj, and_assoc, true_and, and_true, decide_eq_true_eq, Bool.not_eq_true', decide_eq_false_iff_not, reduceCtorEq, upd_same, upd_old, Option.isSome_some, Option.isSome_none, ite_true, ite_false, wipe, *])
local macro_rules | `(tactic| walk_at "r0") => `(tactic| try simp only [tSeq, tAsg, tVar, tC, tOp, tTest, tIfS, tNext, tRet, tDrop, gName, rI0, rI, rU, tUn, rEq_int, rNe_int, tFn, tFnS, tCons, tNil, tChain, tAndV, tOrV, tNotV, tAnd, tOr, tNot, tB, tIf, L2.start, tFor_eq, tLc_eq, iIL, iRL, iRng1, iRng2, iRng3, iEnR, iEnI, iZpR, iZpI, iStr, iTup, rIxI, rIxR, rIxRL, rIxK, rSlI, tSl, tNoPart, tPart, rInI, rNotInI, rInK, rInT, rInF, rInL, rLenI, rLenR, rLenA, rListI, rSortI', rAllB, rEqI, rNeI, rCatI, rCatS, tLM, rAppI, rAppR, rExtI, rIdxI, tLstI, tLstS, tFldT, sFldT, gUnI, gUnR, gTupT, gCons, gNil, sAugT, tTup, tLst, tCB, tAug, ipI, tPar, tM1, tMth, tMk, tRz, tRangeL, tYes, allInts, tupInts, allStrs, tupStrs, L2.rIsN, tIsN, rgV,
  List.map_cons, List.map_nil, List.length_cons, List.length_nil, Nat.zero_add, Nat.reduceAdd, Nat.reduceSub, Nat.reduceLeDiff, Nat.sub_zero, List.replicate_succ, List.replicate_zero, List.cons_append, List.nil_append, List.append_nil, List.set_cons_zero, List.set_cons_succ, List.getElem?_cons_zero, List.getElem?_cons_succ, Option.some.injEq, exists_and_left, exists_and_right, exists_eq_left', exists_eq_left, ex_il, ex_rl, ex_sl, lk_tok1, lk_tok2, lk_tok3, lk_tok4, lk_rdr1, lk_rdr2, lk_rdr3, lk_rdr4, lk_rdr5, lk_ply1, lk_ply2, lk_tbl1, lk_tbl2, lk_tbl3, lk_cal1, lk_cal2, lk_cal3, lk_dsk1, lk_dsk2, lk_dsk3, pt_rdr2, pt_dsk2, len_rdr, len_dsk, Nat.reduceLT, HO.lst.injEq, Int.zero_add, exists_eq, exists_eq', V.int.injEq, V.ref.injEq, V.bl.injEq, V.str.injEq, List.cons.injEq, HO.ins.injEq, HO.tup.injEq, il_inj, rl_inj, sl_inj, bl_inj, and_assoc, true_and, and_true, decide_eq_true_eq, Bool.not_eq_true', decide_eq_false_iff_not, reduceCtorEq, upd_same, upd_old, Option.isSome_some, Option.isSome_none, ite_true, ite_false, wipe])
section
variable {P : Program} {w : World} {K : PySem.W.Frag} {mg : Str → Option Value} {base : Heap} {A : Ads}
/-! ### rows, further -/
theorem nI_mem {n : Nat} {l : List Nat} : ((n : Int) ∈ nI l) ↔ n ∈ l := by
  unfold nI
  constructor
  · intro h
    obtain ⟨m, hm, e⟩ := List.mem_map.mp h
    have : m = n := by omega
    exact this ▸ hm
  · intro h
    exact List.mem_map.mpr ⟨n, h, rfl⟩
theorem nI_perm {a b : List Nat} : (nI a).Perm (nI b) ↔ a.Perm b := by
  constructor
  · intro h
    have := h.map Int.toNat
    unfold nI at this
    rw [List.map_map, List.map_map] at this
    have e : (Int.toNat ∘ fun (n : Nat) => (n : Int)) = id := by
      funext n
      rfl
    rw [e, List.map_id, List.map_id] at this
    exact this
  · intro h
    exact h.map _
theorem nI_idx (y : Nat) (l : List Nat) : (nI l).idxOf (y : Int) = l.idxOf y := by
  induction l with
  | nil => rfl
  | cons x l ih =>
    unfold nI at ih ⊢
    rw [List.map_cons, List.idxOf_cons, List.idxOf_cons, ih]
    by_cases e : x = y
    · subst e
      simp
    · have e2 : ¬ (x : Int) = y := by omega
      have h1 : ((x : Int) == (y : Int)) = false := by simpa using e2
      have h2 : (x == y) = false := by simpa using e
      rw [h1, h2]
theorem sorted_iff {a b a' b' : List Int} (ha : a'.Perm a) (hb : b'.Perm b) (pa : a'.Pairwise (· ≤ ·)) (pb : b'.Pairwise (· ≤ ·)) : a' = b' ↔ a.Perm b := by
  constructor
  · intro e
    subst e
    exact ha.symm.trans hb
  · intro p
    exact List.Perm.eq_of_pairwise (fun x y _ _ h1 h2 => Int.le_antisymm h1 h2) pa pb ((ha.trans p).trans hb.symm)
structure RowOk (p k : Nat) (l r : List Nat) : Prop where
  hP : Cm.Pr p
  hk : Cm.IsK p k
  nd : (Cm.lockRow p k l).Nodup
  ll : l.length ≤ 20
  lr : r.length = l.length
def sp_orderof : Sp := fun vs H Q _ => ∃ (a b : Addr) (l r : List Nat) (k p : Nat), vs = [.ref a, .int k, .ref b, .int p] ∧ RowOk p k l r ∧ H a = some (IL (nI l)) ∧ H b = some (IL (nI r)) ∧
  (∀ m, Vbndal.orderFor p l r k = some m → ∀ H' c, Same H H' → H' c = some (IL (nI m)) → Q (.ref c) H') ∧ (Vbndal.orderFor p l r k = none → ∀ H', Same H H' → Q .non H')
theorem fn_order_of (T : Txt K mg A) : FnAt P w K mg base CX0 4 "order_of" ["row", "key", "cards", "prime"] sp_orderof := by
  refine T.d_order_of.fn sc_order_of (fun vs H Q E h => by obtain ⟨_, _, _, _, _, _, rfl, _⟩ := h; rfl) (fun f cdv Ar outer s H vs Q E hr h => ⟨_, (pss_cons (ps_set (i := 4) sc_order_of.nd rfl (.inr rfl) (pe_fn (fn_locked_row T) (hr.mono (by decide)) pass0 (pa_cons (pv 0) (pa_cons (pv 1) (pa_cons (pv 3) pa_nil))))) (pss_cons (ps_if (pt_cmpR (op_neI hr.units) (pe_callB sorted_I (by rfl) T.b_sorted (by decide +kernel) (pa_cons (pv 4) pa_nil)) (pe_callB sorted_I (by rfl) T.b_sorted (by decide +kernel) (pa_cons (pv 2) pa_nil)) (nomark _)) (pss_one (ps_ret pe_non)) pss_nil) (pss_one (ps_ret (pe_lc (own := [("card", 5)]) (g := gName 5) (tt := tYes) rfl sc_order_of.nd (pi_IL K (pv 2)) (blkOk_by (N := ["row", "key", "cards", "prime", "found", "card"]) (sc := defScope s_order_of) (by decide +kernel)) (fun _ _ _ _ _ => (pg_name (i := 5) sc_order_of.nd rfl (Or.inl rfl))) (fun _ _ _ _ _ => pts_nil) (fun _ _ _ _ _ => (pe_lm PySem.F.plainAttrs_list PySem.F.slot_list_index PySem.F.type_list_index idx_I (pv 4) (pa_cons (pv 5) pa_nil)))))))), ?_⟩)
  obtain ⟨a, b, l, r, k, p, rfl, ⟨hP, hk, nd, ll, lr⟩, ha, hb, q1, q2⟩ := h
  have hk2 := hk.hi
  have h491 := hP.q491
  walk_at "rd"
  refine ⟨a, l, k, p, rfl, hP, by omega, ha, by omega, fun H1 c s1 hc => ?_⟩
  have g1 := s1.get
  walk_at "rd"
  refine ⟨by rw [nI_len, Cm.lockRow_len]; omega, fun ns x pn sn hx => ?_⟩
  have hb1 : (upd H1 x (IL ns)) b = some (IL (nI r)) := (Same.new hx) _ _ (s1 _ _ hb)
  walk_at "rd"
  refine ⟨by rw [nI_len]; omega, fun ms y pm sm hy => ?_⟩
  have s2 : Same H (upd (upd H1 x (IL ns)) y (IL ms)) := (s1.trans (Same.new hx)).trans (Same.new hy)
  have hyx : y ≠ x := fun e => by rw [e, upd_same] at hy; cases hy
  have hxy : (upd (upd H1 x (IL ns)) y (IL ms)) x = some (IL ns) := by rw [upd_ne hyx.symm, upd_same]
  have e1 := sorted_iff pn pm sn sm
  rw [nI_perm] at e1
  refine ⟨ns, hxy, ?_⟩
  by_cases he : ns = ms
  · have hp := e1.mp he
    have ho := Cm.order_yes nd lr hp
    have hc2 : (upd (upd H1 x (IL ns)) y (IL ms)) c = some (IL (nI (Cm.lockRow p k l))) := ((Same.new hx).trans (Same.new hy)) _ _ hc
    have hb2 := (Same.new hy (o := IL ms)) _ _ hb1
    rw [if_neg (by simpa using he)]
    refine ⟨⟨_, hb2⟩, fun D hD => ?_⟩
    refine lc_mp walk_IL (fun i => ((Cm.lockRow p k l).idxOf (r.getD i 0) : Nat)) hD (by rw [nI_len]; omega) (fun H1 s => s _ _ hb2) (fun i z H2 H' C hi s3 y s4 cc => ?_) il_same fun H2 s3 e => ?_
    · obtain ⟨rfl, n, hn, rfl⟩ := y
      obtain ⟨j, hj, rfl⟩ := nI_get hn
      have hc3 := s4 _ _ hc2
      walk_at "rd"
      refine ⟨nI_mem.mpr (hp.mem_iff.mpr (mem_of_get hj)), ?_⟩
      have := cc H' (Same.refl _)
      rw [List.getD_eq_getElem?_getD, hj] at this
      rw [nI_idx]
      exact this
    · refine q1 _ ho _ _ (s2.trans s3) ?_
      rw [e, nI_len]
      have := range_map_get r 0 (fun j => (((Cm.lockRow p k l).idxOf j : Nat) : Int))
      rw [this]
      unfold nI
      rw [List.map_map]
      rfl
  · have hp : ¬ (Cm.lockRow p k l).Perm r := fun h => he (e1.mpr h)
    rw [if_pos (by simpa using he)]
    exact q2 (Cm.order_no nd lr hp) _ s2
theorem fm_filter {α : Type} (p : α → Bool) (f : α → Int) : ∀ l : List α, l.filterMap (fun x => if p x = true then some (f x) else none) = (l.filter p).map f
  | [] => rfl
  | x :: l => by
    cases h : p x <;> simp [h, fm_filter p f l]
theorem range_fm_get {α : Type} (l : List α) (d : α) (p : α → Bool) (f : α → Int) : (List.range l.length).filterMap (fun i => if p (l.getD i d) = true then some (f (l.getD i d)) else none) = (l.filter p).map f := by
  have e := range_map_get l d id
  have e2 : (List.range l.length).filterMap (fun i => if p (l.getD i d) = true then some (f (l.getD i d)) else none) = ((List.range l.length).map fun i => id (l.getD i d)).filterMap (fun x => if p x = true then some (f x) else none) := by
    rw [List.filterMap_map]
    rfl
  rw [e2, e, List.map_id, fm_filter]
def sp_errors : Sp := fun vs H Q _ => ∃ (a b : Addr) (l r : List Nat) (k p : Nat), vs = [.ref a, .int k, .ref b, .int p] ∧ RowOk p k l r ∧ H a = some (IL (nI l)) ∧ H b = some (IL (nI r)) ∧
  (∀ H', Same H H' → Q (.int (Vbndal.errorCount p l r k : Nat)) H')
theorem fn_errors_of (T : Txt K mg A) : FnAt P w K mg base CX0 4 "errors_of" ["row", "key", "cards", "prime"] sp_errors := by
  refine T.d_errors_of.fn sc_errors_of (fun vs H Q E h => by obtain ⟨_, _, _, _, _, _, rfl, _⟩ := h; rfl) (fun f cdv Ar outer s H vs Q E hr h => ⟨_, (pss_one (ps_ret (pe_callB len_I (by rfl) T.b_len (by decide +kernel) (pa_cons (pe_lc (own := [("card", 4)]) (g := gName 4) rfl sc_errors_of.nd (pi_IL K (pe_fn (fn_locked_row T) (hr.mono (by decide)) pass0 (pa_cons (pv 0) (pa_cons (pv 1) (pa_cons (pv 3) pa_nil))))) (blkOk_by (N := ["row", "key", "cards", "prime", "card"]) (sc := defScope s_errors_of) (by decide +kernel)) (fun _ _ _ _ _ => (pg_name (i := 4) sc_errors_of.nd rfl (Or.inl rfl))) (fun _ _ _ _ _ => (pts_one (pt_cmpR op_notInI (pv 4) (pv 2) (by rfl)))) (fun _ _ _ _ _ => (pv 4))) pa_nil)))), ?_⟩)
  obtain ⟨a, b, l, r, k, p, rfl, ⟨hP, hk, nd, ll, lr⟩, ha, hb, q⟩ := h
  have hk2 := hk.hi
  have h491 := hP.q491
  walk_at "rd"
  refine ⟨a, l, k, p, rfl, hP, by omega, ha, by omega, fun H1 c s1 hc => ?_⟩
  have hb1 := s1 _ _ hb
  walk_at "rd"
  intro D hD
  refine lc_il walk_IL (fun i => if (fun x => !decide (x ∈ r)) ((Cm.lockRow p k l).getD i 0) = true then some (((Cm.lockRow p k l).getD i 0 : Nat) : Int) else none) hD (by rw [nI_len, Cm.lockRow_len]; omega) (fun H1 s => s _ _ hc) (fun i z H2 H' C C' hi s3 y s4 cc cc' => ?_) il_same fun H2 s3 e => ?_
  · obtain ⟨rfl, n, hn, rfl⟩ := y
    obtain ⟨j, hj, rfl⟩ := nI_get hn
    have hb2 := s4 _ _ hb1
    walk_at "rd"
    rw [List.getD_eq_getElem?_getD, hj] at cc cc'
    simp only [Option.getD_some, Bool.not_eq_true', decide_eq_false_iff_not] at cc cc'
    by_cases h : j ∈ r
    · have h2 := nI_mem.mpr h
      simp only [h2, decide_true, Bool.not_true, Bool.false_eq_true, ite_false]
      exact cc' _ (by simp [h]) (Same.refl _)
    · have h2 : ¬ (j : Int) ∈ nI r := fun z => h (nI_mem.mp z)
      simp only [h2, decide_false, Bool.not_false, ite_true]
      exact cc _ _ (by simp [h]) (Same.refl _)
  · rw [nI_len, range_fm_get (Cm.lockRow p k l) 0 (fun x => !decide (x ∈ r)) (fun x => (x : Int))] at e
    walk_at "rd"
    rw [List.length_map, ← Cm.error_count nd]
    exact q _ (s1.trans s3)
def sp_openedp : Sp := fun vs H Q _ => ∃ (a : Addr) (l : List Nat) (k y p : Nat), vs = [.ref a, .int k, .int y, .int p] ∧ Cm.Pr p ∧ k < 1000 ∧ H a = some (IL (nI l)) ∧ l.length ≤ 20 ∧
  (∀ i, (l.findIdx? fun x => Vbndal.lockCard p x k == y) = some i → ∀ H', Same H H' → Q (.int (i : Nat)) H') ∧ ((l.findIdx? fun x => Vbndal.lockCard p x k == y) = none → ∀ H', Same H H' → Q .non H')
theorem find_lock (p k y : Nat) (l : List Nat) : (l.findIdx? fun x => Vbndal.lockCard p x k == y) = (Cm.lockRow p k l).findIdx? fun x => x == y := by
  unfold Cm.lockRow
  rw [List.findIdx?_map]
  rfl
theorem fn_opened_place (T : Txt K mg A) : FnAt P w K mg base CX0 4 "opened_place" ["row", "key", "card", "prime"] sp_openedp := by
  refine T.d_opened_place.fn sc_opened_place (fun vs H Q E h => by obtain ⟨_, _, _, _, _, rfl, _⟩ := h; rfl) (fun f cdv Ar outer s H vs Q E hr h => ⟨_, (pss_cons (ps_set (i := 4) sc_opened_place.nd rfl (.inl rfl) (pe_fn (fn_locked_row T) (hr.mono (by decide)) pass0 (pa_cons (pv 0) (pa_cons (pv 1) (pa_cons (pv 3) pa_nil))))) (pss_one (ps_ret (pe_ifExp (pt_cmpR op_inI (pv 2) (pv 4) (by rfl)) (pe_lm PySem.F.plainAttrs_list PySem.F.slot_list_index PySem.F.type_list_index idx_I (pv 4) (pa_cons (pv 2) pa_nil)) pe_non)))), ?_⟩)
  obtain ⟨a, l, k, y, p, rfl, hP, hk, ha, hl, q1, q2⟩ := h
  walk_at "rd"
  refine ⟨a, l, k, p, rfl, hP, hk, ha, by omega, fun H1 c s1 hc => ?_⟩
  rw [find_lock] at q1 q2
  walk_at "rd"
  by_cases h : y ∈ Cm.lockRow p k l
  · rw [if_pos (nI_mem.mpr h)]
    have hm := nI_mem.mpr h
    walk_at "rd"
    rw [nI_idx]
    exact q1 _ (Cm.idx_of h) _ s1
  · rw [if_neg fun z => h (nI_mem.mp z)]
    refine q2 ?_ _ s1
    rw [List.findIdx?_eq_none_iff]
    intro x hx
    have : x ≠ y := fun e => h (e ▸ hx)
    simpa using this
def sp_factorial : Sp := fun vs H Q _ => ∃ n : Int, vs = [.int n] ∧ n ≤ 20 ∧ -1000 ≤ n ∧ Q (.int (Vbndal.factorial n.toNat : Nat)) H
theorem fn_factorial_of (T : Txt K mg A) : FnAt P w K mg base CX0 1 "factorial_of" ["number"] sp_factorial := by
  refine T.d_factorial_of.fn sc_factorial_of (fun vs H Q E h => by obtain ⟨_, rfl, _⟩ := h; rfl) (fun f cdv Ar outer s H vs Q E hr h => ⟨_, (pss_cons (ps_set (i := 1) sc_factorial_of.nd rfl (.inl rfl) pe_int) (pss_cons (ps_for PassesOwn.never rfl (pi_range2 (by rfl) T.b_range (pa_cons pe_int (pa_cons (pe_op op_add (pv 0) pe_int) pa_nil))) (pg_name (i := 2) sc_factorial_of.nd rfl (Or.inl rfl)) (pss_one (ps_set (i := 1) sc_factorial_of.nd rfl (.inl rfl) (pe_op op_mul (pv 1) (pv 2))))) (pss_one (ps_ret (pv 1))))), ?_⟩)
  obtain ⟨n, rfl, hn, hn2, q⟩ := h
  walk_at "rd"
  refine ⟨by decide, by decide, by omega, by omega, ?_⟩
  refine for_w walk_range (fun i σ H' => H' = H ∧ ∃ v, σ = [some (.int n), some (.int (Vbndal.factorial (i + 1) : Nat)), v]) ⟨rfl, _, rfl⟩ (fun _ _ _ _ _ => trivial) (fun i x σ H1 H2 hlt hh y => ?_) fun σ H1 hh => ?_
  · obtain ⟨rfl, v, rfl⟩ := hh
    obtain ⟨rfl, rfl⟩ := y
    walk_at "r0"
    refine ⟨.inr ⟨by omega, by omega⟩, ?_⟩
    have e : Vbndal.factorial (i + 1 + 1) = (i + 1 + 1) * Vbndal.factorial (i + 1) := rfl
    rw [e]
    push_cast
    rw [Int.mul_comm]
    have e3 : (2 : Int) + (i : Int) = (i : Int) + 1 + 1 := by omega
    rw [e3]
  · obtain ⟨rfl, v, rfl⟩ := hh
    walk_at "r0"
    have e : Vbndal.factorial ((n + 1 - 2).toNat + 1) = Vbndal.factorial n.toNat := by
      rcases Int.le_total n 0 with z | z
      · have e1 : (n + 1 - 2).toNat = 0 := by omega
        have e2 : n.toNat = 0 := by omega
        rw [e1, e2]
        rfl
      · rcases Int.lt_or_eq_of_le z with y | y
        · have e1 : (n + 1 - 2).toNat + 1 = n.toNat := by omega
          rw [e1]
        · subst y
          rfl
    rw [e]
    exact q
theorem cut_take {ns : List Int} {b : Int} (h0 : 0 ≤ b) (h1 : b ≤ ns.length) : cutI ns none (some b) = ns.take b.toNat := by
  unfold cutI
  have e : b = ((b.toNat : Nat) : Int) := by omega
  rw [HT.sIx_none, e, HT.sIx_nat]
  have e2 : min ((b.toNat : Nat) : Int).toNat ns.length - 0 = b.toNat := by omega
  rw [List.drop_zero]
  simp
  omega
theorem cut_mid {ns : List Int} {a b : Int} (h0 : 0 ≤ a) (h1 : a ≤ b) (h2 : b ≤ ns.length) : cutI ns (some a) (some b) = (ns.drop a.toNat).take (b - a).toNat := by
  obtain ⟨i, rfl⟩ := Int.eq_ofNat_of_zero_le h0
  obtain ⟨j, rfl⟩ := Int.eq_ofNat_of_zero_le (Int.le_trans h0 h1)
  unfold cutI
  rw [HT.sIx_nat, HT.sIx_nat, Nat.min_eq_left (by omega), Nat.min_eq_left (by omega), Int.toNat_natCast]
  congr 1
  omega
def sp_diff : Sp := fun vs H Q _ => ∃ (a : Addr) (ns : List Int), vs = [.ref a] ∧ H a = some (IL ns) ∧ ns.length ≤ 1000 ∧ ∀ H', Same H H' → Q (.bl (decide ns.Nodup)) H'
theorem fn_are_different (T : Txt K mg A) : FnAt P w K mg base CX0 1 "are_different" ["things"] sp_diff := by
  refine T.d_are_different.fn sc_are_different (fun vs H Q E h => by obtain ⟨_, _, rfl, _⟩ := h; rfl) (fun f cdv Ar outer s H vs Q E hr h => ⟨_, (pss_one (ps_ret (pe_callB (all_B rfl) (by rfl) T.b_all (by decide +kernel) (pa_cons (pe_lc (own := [("at", 1)]) (g := gName 1) (tt := tYes) rfl sc_are_different.nd (pi_range1 (by rfl) T.b_range (pa_cons (pe_callB len_I (by rfl) T.b_len (by decide +kernel) (pa_cons (pv 0) pa_nil)) pa_nil)) (blkOk_by (N := ["things", "at"]) (sc := defScope s_are_different) (by decide +kernel)) (fun _ _ _ _ _ => (pg_name (i := 1) sc_are_different.nd rfl (Or.inl rfl))) (fun _ _ _ _ _ => pts_nil) (fun _ _ _ _ _ => (pe_cmpR op_notInI (pe_ix ix_I (pv 0) (pv 1) (fun _ _ => rfl)) (pe_slice sl_I (pv 0) po_none (po_some (pv 1))) (by rfl)))) pa_nil)))), ?_⟩)
  obtain ⟨a, ns, rfl, ha, hl, q⟩ := h
  walk_at "rd"
  refine ⟨by omega, by omega, fun D hD => ?_⟩
  refine lc_bl walk_range (fun i => !decide (ns.getD i 0 ∈ ns.take i)) hD (by omega) (fun _ _ => trivial) (fun i x H1 H' C hi s1 y s2 c => ?_) yfn_same fun H1 s1 e => ?_
  · obtain ⟨rfl, rfl⟩ := y
    have ha2 := s2 _ _ ha
    walk_at "rd"
    refine ⟨by omega, by omega, fun x hx => ?_⟩
    rw [cut_take (by omega) (by omega)]
    have e3 : (i : Int).toNat = i := by omega
    rw [e3]
    exact c _ (Same.new hx)
  · have e2 : ((ns.length : Int)).toNat = ns.length := by omega
    rw [e2] at e
    walk_at "rd"
    rw [Cm.all_diff]
    exact q _ s1
theorem rsz_parts {n m : Nat} (h1 : 1 ≤ n) : Builtin.Range.rangeSize 0 ((n * m : Nat) : Int) (n : Int) = (m : Int) := by
  unfold Builtin.Range.rangeSize
  rw [if_pos (by omega)]
  rcases Nat.eq_zero_or_pos m with rfl | hp
  · simp
  · have hnm : 1 ≤ n * m := Nat.mul_pos h1 hp
    rw [if_pos (by omega)]
    obtain ⟨k, rfl⟩ : ∃ k, m = k + 1 := ⟨m - 1, by omega⟩
    have e : ((n * (k + 1) : Nat) : Int) - 0 - 1 = ((n : Int) - 1) + (n : Int) * (k : Int) := by
      push_cast
      rw [Int.mul_add, Int.mul_one]
      omega
    rw [e, Int.add_mul_ediv_left _ _ (by omega), Int.ediv_eq_zero_of_lt (by omega) (by omega)]
    omega
theorem rgc_parts {n m : Nat} (h1 : 1 ≤ n) (h2 : n ≤ 1000) (hm : m ≤ 1000) : RgC 0 ((n * m : Nat) : Int) (n : Int) m := by
  have hb : n * m ≤ 1000000 := Nat.mul_le_mul h2 hm
  refine ⟨by omega, by omega, ?_, rsz_parts h1⟩
  unfold Builtin.Range.small
  rw [rsz_parts h1, if_pos (by omega)]
  simp only [Builtin.Range.rangeFitsLong, Bool.and_eq_true, Bool.or_eq_true, decide_eq_true_eq, beq_iff_eq]
  omega
def sp_parts : Sp := fun vs H Q _ => ∃ (a : Addr) (ns : List Int) (n m : Nat), vs = [.ref a, .int n] ∧ H a = some (IL ns) ∧ 1 ≤ n ∧ n ≤ 1000 ∧ ns.length = n * m ∧ m ≤ 1000 ∧ ∀ H' b as, Same H H' → H' b = some (RL as) → as.length = m → (∀ i c, as[i]? = some c → H' c = some (IL ((ns.drop (n * i)).take n)) ∧ H c = none) → H b = none → Q (.ref b) H'
theorem fn_parts_of (T : Txt K mg A) : FnAt P w K mg base CX0 1 "parts_of" ["numbers", "size"] sp_parts := by
  refine T.d_parts_of.fn sc_parts_of (fun vs H Q E h => by obtain ⟨_, _, _, _, rfl, _⟩ := h; rfl) (fun f cdv Ar outer s H vs Q E hr h => ⟨_, (pss_one (ps_ret (pe_lc (own := [("at", 2)]) (g := gName 2) (tt := tYes) rfl sc_parts_of.nd (pi_range3 (by rfl) T.b_range (pa_cons pe_int (pa_cons (pe_callB len_I (by rfl) T.b_len (by decide +kernel) (pa_cons (pv 0) pa_nil)) (pa_cons (pv 1) pa_nil)))) (blkOk_by (N := ["numbers", "size", "at"]) (sc := defScope s_parts_of) (by decide +kernel)) (fun _ _ _ _ _ => (pg_name (i := 2) sc_parts_of.nd rfl (Or.inl rfl))) (fun _ _ _ _ _ => pts_nil) (fun _ _ _ _ _ => (pe_slice sl_I (pv 0) (po_some (pv 2)) (po_some (pe_op op_add (pv 2) (pv 1)))))))), ?_⟩)
  obtain ⟨a, ns, n, m, rfl, ha, h1, h2, hl, hm, q⟩ := h
  walk_at "rd"
  refine ⟨m, rgc_parts h1 h2 hm, fun D hD => ?_⟩
  refine lc_rf walk_rangeC (fun i b H3 => H3 b = some (IL ((ns.drop (n * i)).take n)) ∧ H b = none) (fun i b H H' s e => ⟨s _ _ e.1, e.2⟩) hD (fun i b H o hne e => ⟨by rw [upd_ne hne]; exact e.1, e.2⟩) (by omega) (fun _ _ => trivial) (fun i x H1 H' C hi s1 hd y s2 c => ?_) yfn_same fun H1 as s1 hl e hh => q _ _ _ s1 e hl (fun i c e2 => (hh i c e2).2) hD
  obtain ⟨rfl, rfl⟩ := y
  have ha2 := s2 _ _ ha
  walk_at "rd"
  intro x hx
  have hne : x ≠ D := fun e => hd (by rw [← e]; exact hx)
  have hle : n * i + n ≤ n * m := by
    have := Nat.mul_le_mul_left n (show i + 1 ≤ m by omega)
    rw [Nat.mul_add, Nat.mul_one] at this
    exact this
  refine c x _ hne ⟨?_, s2.free hx⟩ (Same.new hx)
  have e1 : (i : Int) * (n : Int) = ((n * i : Nat) : Int) := by
    push_cast
    rw [Int.mul_comm]
  rw [upd_same, e1, cut_mid (by omega) (by omega) (by omega)]
  have e2 : (((n * i : Nat) : Int) + (n : Int) - ((n * i : Nat) : Int)).toNat = n := by omega
  rw [e2, Int.toNat_natCast]
end
end Cl
set_option Elab.async false
set_option linter.all false
set_option maxRecDepth 100000
set_option maxHeartbeats 4000000
namespace Cl
open PySem PySem.Spec PyProof.Rows L2
local macro_rules | `(tactic| walk_at "rd") => `(tactic| try simp only [tSeq, tAsg, tVar, tC, tOp, tTest, tIfS, tNext, tRet, tDrop, gName, rI0, rI, rU, tUn, rEq_int, rNe_int, tFn, tFnS, tCons, tNil, tChain, tAndV, tOrV, tNotV, tAnd, tOr, tNot, tB, tIf, L2.start, tFor_eq, tLc_eq, iIL, iRL, iRng1, iRng2, iRng3, iEnR, iEnI, iZpR, iZpI, iStr, iTup, rIxI, rIxR, rIxRL, rIxK, rSlI, tSl, tNoPart, tPart, rInI, rNotInI, rInK, rInT, rInF, rInL, rLenI, rLenR, rLenA, rListI, rSortI', rAllB, rEqI, rNeI, rCatI, rCatS, tLM, rAppI, rAppR, rExtI, rIdxI, tLstI, tLstS, tFldT, sFldT, gUnI, gUnR, gTupT, gCons, gNil, sAugT, tTup, tLst, tCB, tAug, ipI, tPar, tM1, tMth, tMk, tRz, tRangeL, tYes, allInts, tupInts, allStrs, tupStrs, L2.rIsN, tIsN, rgV,
  List.map_cons, List.map_nil, List.length_cons, List.length_nil, Nat.zero_add, Nat.reduceAdd, Nat.reduceSub, Nat.reduceLeDiff, Nat.sub_zero, List.replicate_succ, List.replicate_zero, List.cons_append, List.nil_append, List.append_nil, List.set_cons_zero, List.set_cons_succ, List.getElem?_cons_zero, List.getElem?_cons_succ, Option.some.injEq, exists_and_left, exists_and_right, exists_eq_left', exists_eq_left, ex_il, ex_rl, ex_sl, lk_tok1, lk_tok2, lk_tok3, lk_tok4, lk_rdr1, lk_rdr2, lk_rdr3, lk_rdr4, lk_rdr5, lk_ply1, lk_ply2, lk_tbl1, lk_tbl2, lk_tbl3, lk_cal1, lk_cal2, lk_cal3, lk_dsk1, lk_dsk2, lk_dsk3, pt_rdr2, pt_dsk2, len_rdr, len_dsk, Nat.reduceLT, HO.lst.injEq, Int.zero_add, exists_eq, exists_eq', V.int.injEq, V.ref.injEq, V.bl.injEq, V.str.injEq, List.cons.injEq, HO.ins.injEq, HO.tup.injEq, il_inj, rl_inj, sl_inj, bl_inj, and_assoc, true_and, and_true, decide_eq_true_eq, Bool.not_eq_true', decide_eq_false_iff_not, reduceCtorEq, upd_same, upd_old, Option.isSome_some, Option.isSome_none, ite_true, ite_false, wipe, *])
local macro_rules | `(tactic| walk_at "r0") => `(tactic| try simp only [tSeq, tAsg, tVar, tC, tOp, tTest, tIfS, tNext, tRet, tDrop, gName, rI0, rI, rU, tUn, rEq_int, rNe_int, tFn, tFnS, tCons, tNil, tChain, tAndV, tOrV, tNotV, tAnd, tOr, tNot, tB, tIf, L2.start, tFor_eq, tLc_eq, iIL, iRL, iRng1, iRng2, iRng3, iEnR, iEnI, iZpR, iZpI, iStr, iTup, rIxI, rIxR, rIxRL, rIxK, rSlI, tSl, tNoPart, tPart, rInI, rNotInI, rInK, rInT, rInF, rInL, rLenI, rLenR, rLenA, rListI, rSortI', rAllB, rEqI, rNeI, rCatI, rCatS, tLM, rAppI, rAppR, rExtI, rIdxI, tLstI, tLstS, tFldT, sFldT, gUnI, gUnR, gTupT, gCons, gNil, sAugT, tTup, tLst, tCB, tAug, ipI, tPar, tM1, tMth, tMk, tRz, tRangeL, tYes, allInts, tupInts, allStrs, tupStrs, L2.rIsN, tIsN, rgV,
  List.map_cons, List.map_nil, List.length_cons, List.length_nil, Nat.zero_add, Nat.reduceAdd, Nat.reduceSub, Nat.reduceLeDiff, Nat.sub_zero, List.replicate_succ, List.replicate_zero, List.cons_append, List.nil_append, List.append_nil, List.set_cons_zero, List.set_cons_succ, List.getElem?_cons_zero, List.getElem?_cons_succ, Option.some.injEq, exists_and_left, exists_and_right, exists_eq_left', exists_eq_left, ex_il, ex_rl, ex_sl, lk_tok1, lk_tok2, lk_tok3, lk_tok4, lk_rdr1, lk_rdr2, lk_rdr3, lk_rdr4, lk_rdr5, lk_ply1, lk_ply2, lk_tbl1, lk_tbl2, lk_tbl3, lk_cal1, lk_cal2, lk_cal3, lk_dsk1, lk_dsk2, lk_dsk3, pt_rdr2, pt_dsk2, len_rdr, len_dsk, Nat.reduceLT, HO.lst.injEq, Int.zero_add, exists_eq, exists_eq', V.int.injEq, V.ref.injEq, V.bl.injEq, V.str.injEq, List.cons.injEq, HO.ins.injEq, HO.tup.injEq, il_inj, rl_inj, sl_inj, bl_inj, and_assoc, true_and, and_true, decide_eq_true_eq, Bool.not_eq_true', decide_eq_false_iff_not, reduceCtorEq, upd_same, upd_old, Option.isSome_some, Option.isSome_none, ite_true, ite_false, wipe])
section
variable {P : Program} {w : World} {K : PySem.W.Frag} {mg : Str → Option Value} {base : Heap} {A : Ads}
/-! ### tables in memory -/
structure TOk (t : Vbndal.Table) : Prop where
  hP : Cm.Pr t.prime
  deck : ∀ x ∈ t.deck, Cm.IsC t.prime x
  dnd : t.deck.Nodup
  d2 : 2 ≤ t.deck.length
  d10 : t.deck.length ≤ 10
  p4 : t.players.length ≤ 4
  keys : ∀ y ∈ t.players, Cm.IsK t.prime y.key
  names : ∀ y ∈ t.players, Cm.NmOk y.name
def PlAt (A : Ads) (H : Hp) (a : Addr) (y : Vbndal.Player) : Prop := ∃ dx na, H a = some (.ins A.ply dx (plyF na y.key)) ∧ H na = some (IL (nI y.name))
def TbAt (A : Ads) (H : Hp) (a : Addr) (t : Vbndal.Table) : Prop := ∃ dx da la as, H a = some (.ins A.tbl dx (tblF t.prime da la)) ∧ H da = some (IL (nI t.deck)) ∧ H la = some (RL as) ∧ Paired (PlAt A H) as t.players
theorem PlAt.mono {A : Ads} {H H' : Hp} {a : Addr} {y : Vbndal.Player} (s : Same H H') : PlAt A H a y → PlAt A H' a y := fun ⟨dx, na, h1, h2⟩ => ⟨dx, na, s _ _ h1, s _ _ h2⟩
theorem TbAt.mono {A : Ads} {H H' : Hp} {a : Addr} {t : Vbndal.Table} (h : TbAt A H a t) (s : Same H H') : TbAt A H' a t := by
  obtain ⟨dx, da, la, as, h1, h2, h3, h4⟩ := h
  exact ⟨dx, da, la, as, s _ _ h1, s _ _ h2, s _ _ h3, L2.Paired.mapP h4 fun a b => PlAt.mono s⟩
/-- a check: nothing is handed back, or the argument is refused -/
def Chk (A : Ads) (b : Bool) (H : Hp) (Q : VK) (E : XK) : Prop := (b = true → ∀ H', Same H H' → Q .non H') ∧ (b = false → RefE A (-1) H E)
def ChH (A : Ads) (b : Bool) (H : Hp) (Q : VK) (E : XK) : Prop := (b = true → Q .non H) ∧ (b = false → RefE A (-1) H E)
theorem all_get (f : Int → Bool) (l : List Int) : ((List.range l.length).map fun i => f (l.getD i 0)).all id = l.all f := by
  rw [range_map_get l 0 f, List.all_map]
  rfl
def sp_ctext (A : Ads) : Sp := fun vs H Q E => ∃ (a : Addr) (ns : List Int), vs = [.ref a] ∧ H a = some (IL ns) ∧ ns.length ≤ 1000 ∧ Chk A (Vbndal.isTextArgument ns) H Q E
theorem fn_check_text (T : Txt K mg A) : FnAt P w K mg base (L2.CX P w) 4 "check_text" ["text"] (sp_ctext A) := by
  refine T.d_check_text.fnX sc_check_text (fun vs H Q E h => by obtain ⟨_, _, rfl, _⟩ := h; rfl) (fun f cdv Ar outer s H vs Q E hr h => ⟨_, (pss_one (ps_expr (pe_fn (fn_need T) (hr.mono (by decide)) (passes_call (takes_of rfl rfl rfl rfl) (fun _ _ _ _ h => h)) (pa_cons (pe_and (pe_cmpR op_le (pe_callB len_I (by rfl) T.b_len (by decide +kernel) (pa_cons (pv 0) pa_nil)) (pe_ki T.k_MOST_BYTES) (nomark _)) (pe_one (pe_callB (all_B rfl) (by rfl) T.b_all (by decide +kernel) (pa_cons (pe_lc (own := [("sign", 1)]) (g := gName 1) (tt := tYes) rfl sc_check_text.nd (pi_IL K (pv 0)) (blkOk_by (N := ["text", "sign"]) (sc := defScope s_check_text) (by decide +kernel)) (fun _ _ _ _ _ => (pg_name (i := 1) sc_check_text.nd rfl (Or.inl rfl))) (fun _ _ _ _ _ => pts_nil) (fun _ _ _ _ _ => (pe_chain op_le op_le pe_int (pv 1) pe_int))) pa_nil)))) pa_nil)))), ?_⟩)
  obtain ⟨a, ns, rfl, ha, hl, q1, q2⟩ := h
  have e0 : Vbndal.isTextArgument ns = (decide (ns.length ≤ 800) && ns.all fun z => decide (0 ≤ z ∧ z ≤ 255)) := by
    unfold Vbndal.isTextArgument Vbndal.maxTextLength Vbndal.inRange
    simp
  rw [e0] at q1 q2
  walk_at "rd"
  split
  · rename_i h1
    rw [decide_eq_true (by omega), Bool.true_and] at q1 q2
    intro D hD
    refine lc_bl walk_IL (fun i => (fun z => decide (0 ≤ z ∧ z ≤ 255)) (ns.getD i 0)) hD (by omega) (fun H1 s => s _ _ ha) (fun i x H1 H' C hi s1 y s2 c => ?_) il_same fun H1 s1 e => ?_
    · obtain ⟨rfl, n, hn, rfl⟩ := y
      have := c H' (Same.refl _)
      rw [List.getD_eq_getElem?_getD, hn] at this
      simp only [Option.getD_some] at this
      walk_at "r0"
      split
      · rename_i h0
        have e : decide (0 ≤ n ∧ n ≤ 255) = decide (n ≤ 255) := decide_eq_decide.mpr (by omega)
        rw [← e]
        exact this
      · rename_i h0
        have e : decide (0 ≤ n ∧ n ≤ 255) = false := decide_eq_false (by omega)
        rw [← e]
        exact this
    · have ea := all_get (fun z => decide (0 ≤ z ∧ z ≤ 255)) ns
      walk_at "rd"
      refine ⟨_, rfl, fun hb => q1 hb _ s1, fun hb => RefE.mono (q2 hb) s1⟩
  · rename_i h1
    rw [decide_eq_false (by omega), Bool.false_and] at q2
    exact ⟨false, rfl, fun z => (nomatch z), fun _ => q2 rfl⟩
def sp_ccard (A : Ads) : Sp := fun vs H Q E => ∃ (x : Int) (t : Addr) (tb : Vbndal.Table), vs = [.int x, .ref t] ∧ TbAt A H t tb ∧ Cm.Pr tb.prime ∧ ChH A (isCa tb.prime x) H Q E
theorem fn_check_card (T : Txt K mg A) : FnAt P w K mg base (L2.CX P w) 4 "check_card" ["card", "table"] (sp_ccard A) := by
  refine T.d_check_card.fnX sc_check_card (fun vs H Q E h => by obtain ⟨_, _, _, rfl, _⟩ := h; rfl) (fun f cdv Ar outer s H vs Q E hr h => ⟨_, (pss_one (ps_expr (pe_fn (fn_need T) (hr.mono (by decide)) (passes_call (takes_of rfl rfl rfl rfl) (fun _ _ _ _ h => h)) (pa_cons (pe_fn (fn_is_card T) (hr.mono (by decide)) pass0 (pa_cons (pv 0) (pa_cons (pe_fldT T.c_Table.cl T.n_Table_prime (pv 1) rfl) pa_nil))) pa_nil)))), ?_⟩)
  obtain ⟨x, t, tb, rfl, ⟨dx, da, la, as, t1, t2, t3, t4⟩, hP, q1, q2⟩ := h
  walk_at "rd"
  exact ⟨x, tb.prime, rfl, hP, _, rfl, q1, q2⟩
def sp_ckey (A : Ads) : Sp := fun vs H Q E => ∃ (x : Int) (t : Addr) (tb : Vbndal.Table), vs = [.int x, .ref t] ∧ TbAt A H t tb ∧ Cm.Pr tb.prime ∧ ChH A (isKe tb.prime x) H Q E
theorem fn_check_key (T : Txt K mg A) : FnAt P w K mg base (L2.CX P w) 4 "check_key" ["key", "table"] (sp_ckey A) := by
  refine T.d_check_key.fnX sc_check_key (fun vs H Q E h => by obtain ⟨_, _, _, rfl, _⟩ := h; rfl) (fun f cdv Ar outer s H vs Q E hr h => ⟨_, (pss_one (ps_expr (pe_fn (fn_need T) (hr.mono (by decide)) (passes_call (takes_of rfl rfl rfl rfl) (fun _ _ _ _ h => h)) (pa_cons (pe_fn (fn_is_key T) (hr.mono (by decide)) pass0 (pa_cons (pv 0) (pa_cons (pe_fldT T.c_Table.cl T.n_Table_prime (pv 1) rfl) pa_nil))) pa_nil)))), ?_⟩)
  obtain ⟨x, t, tb, rfl, ⟨dx, da, la, as, t1, t2, t3, t4⟩, hP, q1, q2⟩ := h
  walk_at "rd"
  exact ⟨x, tb.prime, rfl, hP, _, rfl, q1, q2⟩
theorem all_take {f : Int → Bool} {l : List Int} {i : Nat} {n : Int} (h : l[i]? = some n) (a : (l.take i).all f = true) (b : f n = true) : (l.take (i + 1)).all f = true := by
  rw [take_more h, List.all_append, a]
  simp [b]
theorem all_false {f : Int → Bool} {l : List Int} {i : Nat} {n : Int} (h : l[i]? = some n) (b : f n = false) : l.all f = false := by
  rw [← Bool.not_eq_true, List.all_eq_true]
  intro z
  have := z n (mem_of_get h)
  rw [b] at this
  cases this
def sp_ckeys (A : Ads) : Sp := fun vs H Q E => ∃ (a t : Addr) (ks : List Int) (tb : Vbndal.Table), vs = [.ref a, .ref t] ∧ H a = some (IL ks) ∧ TbAt A H t tb ∧ Cm.Pr tb.prime ∧ ChH A (decide (ks.length ≤ 20) && ks.all (isKe tb.prime)) H Q E
theorem fn_check_keys (T : Txt K mg A) : FnAt P w K mg base (L2.CX P w) 5 "check_keys" ["keys", "table"] (sp_ckeys A) := by
  refine T.d_check_keys.fnX sc_check_keys (fun vs H Q E h => by obtain ⟨_, _, _, _, rfl, _⟩ := h; rfl) (fun f cdv Ar outer s H vs Q E hr h => ⟨_, (pss_cons (ps_expr (pe_fn (fn_need T) (hr.mono (by decide)) (passes_call (takes_of rfl rfl rfl rfl) (fun _ _ _ _ h => h)) (pa_cons (pe_cmpR op_le (pe_callB len_I (by rfl) T.b_len (by decide +kernel) (pa_cons (pv 0) pa_nil)) (pe_ki T.k_MOST_KEYS) (nomark _)) pa_nil))) (pss_one (ps_for (passes_of rfl) rfl (pi_IL K (pv 0)) (pg_name (i := 2) sc_check_keys.nd rfl (Or.inl rfl)) (pss_one (ps_expr (pe_fn (fn_check_key T) (hr.mono (by decide)) (passes_call (takes_of rfl rfl rfl rfl) (fun _ _ _ _ h => h)) (pa_cons (pv 2) (pa_cons (pv 1) pa_nil)))))))), ?_⟩)
  obtain ⟨a, t, ks, tb, rfl, ha, ht, hP, q1, q2⟩ := h
  walk_at "rd"
  refine ⟨_, rfl, fun hb => ?_, fun hb => q2 ?_⟩
  · rw [decide_eq_true_eq] at hb
    rw [decide_eq_true (by omega), Bool.true_and] at q1 q2
    walk_at "rd"
    refine for_w walk_IL (fun i σ H' => H' = H ∧ (∃ v, σ = [some (.ref a), some (.ref t), v]) ∧ (ks.take i).all (isKe tb.prime) = true) ⟨rfl, ⟨_, rfl⟩, by simp⟩ (fun i σ H' _ hh => by rw [hh.1]; exact ha) (fun i x σ H1 H2 hlt hh y => ?_) fun σ H1 hh => ?_
    · obtain ⟨rfl, ⟨v, rfl⟩, hv⟩ := hh
      obtain ⟨rfl, n, hn, rfl⟩ := y
      walk_at "r0"
      exact ⟨n, t, tb, rfl, ht, hP, fun hb => by walk_at "r0"; exact all_take hn hv hb, fun hb => q2 (all_false hn hb)⟩
    · obtain ⟨rfl, _, hv⟩ := hh
      rw [List.take_length] at hv
      walk_at "r0"
      exact q1 hv
  · rw [decide_eq_false_iff_not] at hb
    rw [decide_eq_false (by omega), Bool.false_and]
theorem row_arg (a b c : Bool) : (a && (b && c)) = ((a && b) && c) := by cases a <;> rfl
def rowB (p : Nat) (l : List Int) : Bool := (decide (1 ≤ l.length ∧ l.length ≤ 10) && decide l.Nodup) && l.all (isCa p)
def sp_crow (A : Ads) : Sp := fun vs H Q E => ∃ (a t : Addr) (l : List Int) (tb : Vbndal.Table), vs = [.ref a, .ref t] ∧ H a = some (IL l) ∧ l.length ≤ 1000 ∧ TbAt A H t tb ∧ Cm.Pr tb.prime ∧ Chk A (rowB tb.prime l) H Q E
theorem fn_check_row (T : Txt K mg A) : FnAt P w K mg base (L2.CX P w) 5 "check_row" ["row", "table"] (sp_crow A) := by
  refine T.d_check_row.fnX sc_check_row (fun vs H Q E h => by obtain ⟨_, _, _, _, rfl, _⟩ := h; rfl) (fun f cdv Ar outer s H vs Q E hr h => ⟨_, (pss_cons (ps_expr (pe_fn (fn_need T) (hr.mono (by decide)) (passes_call (takes_of rfl rfl rfl rfl) (fun _ _ _ _ h => h)) (pa_cons (pe_and (pe_chain op_le op_le (pe_ki T.k_FEWEST) (pe_callB len_I (by rfl) T.b_len (by decide +kernel) (pa_cons (pv 0) pa_nil)) (pe_ki T.k_MOST)) (pe_one (pe_fn (fn_are_different T) (hr.mono (by decide)) pass0 (pa_cons (pv 0) pa_nil)))) pa_nil))) (pss_one (ps_for (passes_of rfl) rfl (pi_IL K (pv 0)) (pg_name (i := 2) sc_check_row.nd rfl (Or.inl rfl)) (pss_one (ps_expr (pe_fn (fn_check_card T) (hr.mono (by decide)) (passes_call (takes_of rfl rfl rfl rfl) (fun _ _ _ _ h => h)) (pa_cons (pv 2) (pa_cons (pv 1) pa_nil)))))))), ?_⟩)
  obtain ⟨a, t, l, tb, rfl, ha, hl, ht, hP, q1, q2⟩ := h
  have low : ¬ (1 ≤ l.length ∧ l.length ≤ 10) → rowB tb.prime l = false := fun z => by
    unfold rowB
    rw [decide_eq_false z, Bool.false_and, Bool.false_and]
  walk_at "rd"
  split
  · split
    · refine ⟨a, l, rfl, ha, hl, fun H1 s1 => ⟨_, rfl, fun hb => ?_, fun hb => RefE.mono (q2 ?_) s1⟩⟩
      · have ha1 := s1 _ _ ha
        have ht1 := ht.mono s1
        have e : rowB tb.prime l = l.all (isCa tb.prime) := by
          unfold rowB
          rw [decide_eq_true (by omega), hb, Bool.true_and, Bool.true_and]
        rw [e] at q1 q2
        walk_at "rd"
        refine for_w walk_IL (fun i σ H' => H' = H1 ∧ (∃ v, σ = [some (.ref a), some (.ref t), v]) ∧ (l.take i).all (isCa tb.prime) = true) ⟨rfl, ⟨_, rfl⟩, by simp⟩ (fun i σ H' _ hh => by rw [hh.1]; exact ha1) (fun i x σ H1 H2 hlt hh y => ?_) fun σ H1 hh => ?_
        · obtain ⟨rfl, ⟨v, rfl⟩, hv⟩ := hh
          obtain ⟨rfl, n, hn, rfl⟩ := y
          walk_at "r0"
          exact ⟨n, t, tb, rfl, ht1, hP, fun hb => by walk_at "r0"; exact all_take hn hv hb, fun hb => (q2 (all_false hn hb)).mono s1⟩
        · obtain ⟨rfl, _, hv⟩ := hh
          rw [List.take_length] at hv
          walk_at "r0"
          exact q1 hv _ s1
      · unfold rowB
        rw [hb, Bool.and_false, Bool.false_and]
    · exact ⟨false, rfl, fun z => (nomatch z), fun _ => q2 (low (by omega))⟩
  · exact ⟨false, rfl, fun z => (nomatch z), fun _ => q2 (low (by omega))⟩
def sp_ccards (A : Ads) : Sp := fun vs H Q E => ∃ (a t : Addr) (l : List Int) (n : Nat) (tb : Vbndal.Table), vs = [.ref a, .int n, .ref t] ∧ H a = some (IL l) ∧ TbAt A H t tb ∧ Cm.Pr tb.prime ∧ ChH A (decide (l.length = n) && l.all (isCa tb.prime)) H Q E
theorem fn_check_cards (T : Txt K mg A) : FnAt P w K mg base (L2.CX P w) 5 "check_cards" ["cards", "many", "table"] (sp_ccards A) := by
  refine T.d_check_cards.fnX sc_check_cards (fun vs H Q E h => by obtain ⟨_, _, _, _, _, rfl, _⟩ := h; rfl) (fun f cdv Ar outer s H vs Q E hr h => ⟨_, (pss_cons (ps_expr (pe_fn (fn_need T) (hr.mono (by decide)) (passes_call (takes_of rfl rfl rfl rfl) (fun _ _ _ _ h => h)) (pa_cons (pe_cmpR op_eq (pe_callB len_I (by rfl) T.b_len (by decide +kernel) (pa_cons (pv 0) pa_nil)) (pv 1) (nomark _)) pa_nil))) (pss_one (ps_for (passes_of rfl) rfl (pi_IL K (pv 0)) (pg_name (i := 3) sc_check_cards.nd rfl (Or.inl rfl)) (pss_one (ps_expr (pe_fn (fn_check_card T) (hr.mono (by decide)) (passes_call (takes_of rfl rfl rfl rfl) (fun _ _ _ _ h => h)) (pa_cons (pv 3) (pa_cons (pv 2) pa_nil)))))))), ?_⟩)
  obtain ⟨a, t, l, n, tb, rfl, ha, ht, hP, q1, q2⟩ := h
  walk_at "rd"
  refine ⟨_, rfl, fun hb => ?_, fun hb => q2 ?_⟩
  · rw [decide_eq_true_eq] at hb
    rw [decide_eq_true (by omega), Bool.true_and] at q1 q2
    walk_at "rd"
    refine for_w walk_IL (fun i σ H' => H' = H ∧ (∃ v, σ = [some (.ref a), some (.int n), some (.ref t), v]) ∧ (l.take i).all (isCa tb.prime) = true) ⟨rfl, ⟨_, rfl⟩, by simp⟩ (fun i σ H' _ hh => by rw [hh.1]; exact ha) (fun i x σ H1 H2 hlt hh y => ?_) fun σ H1 hh => ?_
    · obtain ⟨rfl, ⟨v, rfl⟩, hv⟩ := hh
      obtain ⟨rfl, n, hn, rfl⟩ := y
      walk_at "r0"
      exact ⟨n, t, tb, rfl, ht, hP, fun hb => by walk_at "r0"; exact all_take hn hv hb, fun hb => q2 (all_false hn hb)⟩
    · obtain ⟨rfl, _, hv⟩ := hh
      rw [List.take_length] at hv
      walk_at "r0"
      exact q1 hv
  · rw [decide_eq_false_iff_not] at hb
    rw [decide_eq_false (by omega), Bool.false_and]
def orderB (n : Nat) (l : List Int) : Bool := decide (l.Perm (nI (List.range n)))
def sp_corder (A : Ads) : Sp := fun vs H Q E => ∃ (a : Addr) (l : List Int) (n : Nat), vs = [.ref a, .int n] ∧ H a = some (IL l) ∧ l.length ≤ 60 ∧ n ≤ 60 ∧ Chk A (orderB n l) H Q E
theorem nI_sorted : ∀ n, (nI (List.range n)).Pairwise (· ≤ ·) := fun n => by
  unfold nI
  rw [List.pairwise_map]
  refine (List.pairwise_lt_range (n := n)).imp fun h => by omega
theorem fn_check_order (T : Txt K mg A) : FnAt P w K mg base (L2.CX P w) 4 "check_order" ["order", "many"] (sp_corder A) := by
  refine T.d_check_order.fnX sc_check_order (fun vs H Q E h => by obtain ⟨_, _, _, rfl, _⟩ := h; rfl) (fun f cdv Ar outer s H vs Q E hr h => ⟨_, (pss_one (ps_expr (pe_fn (fn_need T) (hr.mono (by decide)) (passes_call (takes_of rfl rfl rfl rfl) (fun _ _ _ _ h => h)) (pa_cons (pe_cmpR (op_eqI hr.units) (pe_callB sorted_I (by rfl) T.b_sorted (by decide +kernel) (pa_cons (pv 0) pa_nil)) (pe_rangeL rfl (by rfl) T.b_list (by rfl) T.b_range (pv 1)) (nomark _)) pa_nil)))), ?_⟩)
  obtain ⟨a, l, n, rfl, ha, hl, hn, q1, q2⟩ := h
  walk_at "rd"
  refine ⟨by omega, fun ns x pn sn hx => ?_⟩
  refine ⟨n, rfl, by omega, fun y hy => ?_⟩
  have hyx : y ≠ x := fun e => by rw [e, upd_same] at hy; cases hy
  have hxy : ∀ o, (upd (upd H x (IL ns)) y o) x = some (IL ns) := fun o => by rw [upd_ne hyx.symm, upd_same]
  have s2 : ∀ o, Same H (upd (upd H x (IL ns)) y o) := fun o => (Same.new hx).trans (Same.new hy)
  walk_at "r0"
  refine ⟨_, hxy _, _, rfl, ?_⟩
  have e1 := sorted_iff pn (List.Perm.refl _) sn (nI_sorted n)
  have e2 : decide (ns = nI (List.range n)) = orderB n l := decide_eq_decide.mpr e1
  unfold nI at e2
  rw [e2]
  exact ⟨fun hb => q1 hb _ (s2 _), fun hb => (q2 hb).mono (s2 _)⟩
def sp_cpos (A : Ads) : Sp := fun vs H Q E => ∃ (x n : Int), vs = [.int x, .int n] ∧ ChH A (decide (0 ≤ x ∧ x < n)) H Q E
theorem fn_check_position (T : Txt K mg A) : FnAt P w K mg base (L2.CX P w) 4 "check_position" ["position", "many"] (sp_cpos A) := by
  refine T.d_check_position.fnX sc_check_position (fun vs H Q E h => by obtain ⟨_, _, rfl, _⟩ := h; rfl) (fun f cdv Ar outer s H vs Q E hr h => ⟨_, (pss_one (ps_expr (pe_fn (fn_need T) (hr.mono (by decide)) (passes_call (takes_of rfl rfl rfl rfl) (fun _ _ _ _ h => h)) (pa_cons (pe_chain op_le op_lt pe_int (pv 0) (pv 1)) pa_nil)))), ?_⟩)
  obtain ⟨x, n, rfl, q1, q2⟩ := h
  walk_at "rd"
  split
  · rename_i h0
    have e : decide (0 ≤ x ∧ x < n) = decide (x < n) := decide_eq_decide.mpr (by omega)
    rw [e] at q1 q2
    exact ⟨_, rfl, q1, q2⟩
  · rename_i h0
    have e : decide (0 ≤ x ∧ x < n) = false := decide_eq_false (by omega)
    rw [e] at q1 q2
    exact ⟨_, rfl, q1, q2⟩
def sp_crev (A : Ads) : Sp := fun vs H Q E => ∃ (a t : Addr) (ks : List Int) (tb : Vbndal.Table), vs = [.ref a, .ref t] ∧ H a = some (IL ks) ∧ TbAt A H t tb ∧ TOk tb ∧ ChH A (decide (ks.length = tb.players.length) && ks.all (isKe tb.prime)) H Q E
theorem paired_len {α β : Type} {F : α → β → Prop} {a : List α} {b : List β} (h : Paired F a b) : a.length = b.length := Paired.length h
theorem fn_check_revealed (T : Txt K mg A) : FnAt P w K mg base (L2.CX P w) 6 "check_revealed" ["keys", "table"] (sp_crev A) := by
  refine T.d_check_revealed.fnX sc_check_revealed (fun vs H Q E h => by obtain ⟨_, _, _, _, rfl, _⟩ := h; rfl) (fun f cdv Ar outer s H vs Q E hr h => ⟨_, (pss_cons (ps_expr (pe_fn (fn_need T) (hr.mono (by decide)) (passes_call (takes_of rfl rfl rfl rfl) (fun _ _ _ _ h => h)) (pa_cons (pe_cmpR op_eq (pe_callB len_I (by rfl) T.b_len (by decide +kernel) (pa_cons (pv 0) pa_nil)) (pe_callB len_R (by rfl) T.b_len (by decide +kernel) (pa_cons (pe_fldT T.c_Table.cl T.n_Table_players (pv 1) rfl) pa_nil)) (nomark _)) pa_nil))) (pss_one (ps_expr (pe_fn (fn_check_keys T) (hr.mono (by decide)) (passes_call (takes_of rfl rfl rfl rfl) (fun _ _ _ _ h => h)) (pa_cons (pv 0) (pa_cons (pv 1) pa_nil)))))), ?_⟩)
  obtain ⟨a, t, ks, tb, rfl, ha, ht, hk, q1, q2⟩ := h
  obtain ⟨dx, da, la, as, t1, t2, t3, t4⟩ := id ht
  have h4 := hk.p4
  have hlen := paired_len t4
  walk_at "rd"
  refine ⟨_, rfl, fun hb => ?_, fun hb => q2 ?_⟩
  · rw [decide_eq_true_eq] at hb
    refine ⟨a, t, ks, tb, rfl, ha, ht, hk.hP, ?_⟩
    have e : (decide (ks.length ≤ 20) && ks.all (isKe tb.prime)) = (decide (ks.length = tb.players.length) && ks.all (isKe tb.prime)) := by
      rw [decide_eq_true (by omega), decide_eq_true (by omega)]
    rw [e]
    exact ⟨q1, q2⟩
  · rw [decide_eq_false_iff_not] at hb
    rw [decide_eq_false (by omega), Bool.false_and]
def sp_cnum (A : Ads) : Sp := fun vs H Q E => ∃ (x : Int) (t : Addr) (tb : Vbndal.Table), vs = [.int x, .ref t] ∧ TbAt A H t tb ∧ ChH A (decide (1 ≤ x ∧ x < tb.prime)) H Q E
theorem fn_check_number (T : Txt K mg A) : FnAt P w K mg base (L2.CX P w) 4 "check_number" ["number", "table"] (sp_cnum A) := by
  refine T.d_check_number.fnX sc_check_number (fun vs H Q E h => by obtain ⟨_, _, _, rfl, _⟩ := h; rfl) (fun f cdv Ar outer s H vs Q E hr h => ⟨_, (pss_one (ps_expr (pe_fn (fn_need T) (hr.mono (by decide)) (passes_call (takes_of rfl rfl rfl rfl) (fun _ _ _ _ h => h)) (pa_cons (pe_chain op_le op_le pe_int (pv 0) (pe_op op_sub (pe_fldT T.c_Table.cl T.n_Table_prime (pv 1) rfl) pe_int)) pa_nil)))), ?_⟩)
  obtain ⟨x, t, tb, rfl, ⟨dx, da, la, as, t1, t2, t3, t4⟩, q1, q2⟩ := h
  walk_at "rd"
  split
  · rename_i h0
    have e : decide (1 ≤ x ∧ x < tb.prime) = decide (x ≤ (tb.prime : Int) - 1) := decide_eq_decide.mpr (by omega)
    rw [e] at q1 q2
    exact ⟨_, rfl, q1, q2⟩
  · rename_i h0
    have e : decide (1 ≤ x ∧ x < tb.prime) = false := decide_eq_false (by omega)
    rw [e] at q1 q2
    exact ⟨_, rfl, q1, q2⟩
def expB (p : Nat) (x : Int) : Bool := decide (1 ≤ x ∧ x < p) && decide (Nat.gcd x.toNat (p - 1) = 1)
def sp_cexp (A : Ads) : Sp := fun vs H Q E => ∃ (x : Int) (t : Addr) (tb : Vbndal.Table), vs = [.int x, .ref t] ∧ TbAt A H t tb ∧ Cm.Pr tb.prime ∧ ChH A (expB tb.prime x) H Q E
theorem fn_check_exponent (T : Txt K mg A) : FnAt P w K mg base (L2.CX P w) 5 "check_exponent" ["exponent", "table"] (sp_cexp A) := by
  refine T.d_check_exponent.fnX sc_check_exponent (fun vs H Q E h => by obtain ⟨_, _, _, rfl, _⟩ := h; rfl) (fun f cdv Ar outer s H vs Q E hr h => ⟨_, (pss_cons (ps_expr (pe_fn (fn_check_number T) (hr.mono (by decide)) (passes_call (takes_of rfl rfl rfl rfl) (fun _ _ _ _ h => h)) (pa_cons (pv 0) (pa_cons (pv 1) pa_nil)))) (pss_one (ps_expr (pe_fn (fn_need T) (hr.mono (by decide)) (passes_call (takes_of rfl rfl rfl rfl) (fun _ _ _ _ h => h)) (pa_cons (pe_cmpR op_eq (pe_fn (fn_common_divisor T) (hr.mono (by decide)) pass0 (pa_cons (pv 0) (pa_cons (pe_op op_sub (pe_fldT T.c_Table.cl T.n_Table_prime (pv 1) rfl) pe_int) pa_nil))) pe_int (nomark _)) pa_nil))))), ?_⟩)
  obtain ⟨x, t, tb, rfl, ht, hP, q1, q2⟩ := h
  obtain ⟨dx, da, la, as, t1, t2, t3, t4⟩ := id ht
  have hlo := hP.lo
  walk_at "rd"
  refine ⟨x, t, tb, rfl, ht, fun hb => ?_, fun hb => q2 ?_⟩
  · rw [decide_eq_true_eq] at hb
    walk_at "rd"
    refine ⟨x.toNat, tb.prime - 1, ?_, ?_⟩
    · rw [Int.toNat_of_nonneg (by omega)]
      have : ((tb.prime : Int) - 1) = ((tb.prime - 1 : Nat) : Int) := by omega
      rw [this]
    · walk_at "rd"
      unfold expB at q1 q2
      rw [decide_eq_true hb, Bool.true_and] at q1 q2
      have e : decide (((Nat.gcd x.toNat (tb.prime - 1) : Nat) : Int) = 1) = decide (Nat.gcd x.toNat (tb.prime - 1) = 1) := decide_eq_decide.mpr (by omega)
      rw [e]
      exact ⟨_, rfl, q1, q2⟩
  · unfold expB
    rw [hb, Bool.false_and]
/-! ### every second one -/
def evens : List Int → List Int
  | a :: _ :: r => a :: evens r
  | [a] => [a]
  | [] => []
def odds : List Int → List Int
  | _ :: b :: r => b :: odds r
  | [_] => []
  | [] => []
theorem fm_congr {f g : Nat → Option Int} (h : ∀ k, f k = g k) {l : List Nat} : l.filterMap f = l.filterMap g := by rw [show f = g from funext h]
theorem fm_shift (f : Nat → Option Int) (n : Nat) : (List.range (n + 1)).filterMap f = (f 0).toList ++ (List.range n).filterMap (fun k => f (k + 1)) := by
  rw [List.range_succ_eq_map, List.filterMap_cons]
  have e : (List.map Nat.succ (List.range n)).filterMap f = (List.range n).filterMap (fun k => f (k + 1)) := by
    rw [List.filterMap_map]
    rfl
  cases h : f 0 with
  | none => simp [e]
  | some v => simp [e]
theorem ev_range : ∀ l : List Int, (List.range ((l.length + 1) / 2)).filterMap (fun k => l[2 * k]?) = evens l
  | [] => rfl
  | [a] => by
    have e : ([a].length + 1) / 2 = 1 := by simp
    rw [e]
    rfl
  | a :: b :: r => by
    have ih := ev_range r
    have e : ((a :: b :: r).length + 1) / 2 = (r.length + 1) / 2 + 1 := by
      simp only [List.length_cons]
      omega
    rw [e, fm_shift]
    show [a] ++ _ = a :: evens r
    rw [← ih]
    rfl
theorem od_range : ∀ l : List Int, (List.range (l.length / 2)).filterMap (fun k => l[2 * k + 1]?) = odds l
  | [] => rfl
  | [a] => by
    have e : [a].length / 2 = 0 := by simp
    rw [e]
    rfl
  | a :: b :: r => by
    have ih := od_range r
    have e : (a :: b :: r).length / 2 = r.length / 2 + 1 := by
      simp only [List.length_cons]
      omega
    rw [e, fm_shift]
    show [b] ++ _ = b :: odds r
    rw [← ih]
    rfl
theorem step_ev (l : List Int) : stepI l none = evens l := by
  rw [← ev_range]
  unfold stepI sliceBounds sliceRange
  simp only [Option.getD_some, show (2 : Int) > 0 by decide, if_true]
  rw [List.filterMap_map]
  have e : (if (0 : Int) < (l.length : Int) then ((l.length : Int) - 0 + 2 - 1) / 2 else 0).toNat = (l.length + 1) / 2 := by
    split <;> omega
  rw [e]
  refine fm_congr fun k => ?_
  show l[((0 : Int) + 2 * (k : Int)).toNat]? = _
  congr 1
  omega
theorem step_od (l : List Int) : stepI l (some 1) = odds l := by
  rw [← od_range]
  unfold stepI sliceBounds sliceRange
  simp only [Option.getD_some, show (2 : Int) > 0 by decide, if_true, show ¬ (1 : Int) < 0 by decide, if_false]
  rw [List.filterMap_map]
  rcases Nat.eq_zero_or_pos l.length with h | h
  · have : l = [] := List.length_eq_zero_iff.mp h
    subst this
    rfl
  · have e1 : max (0 : Int) (min 1 (l.length : Int)) = 1 := by omega
    rw [e1]
    have e : (if (1 : Int) < (l.length : Int) then ((l.length : Int) - 1 + 2 - 1) / 2 else 0).toNat = l.length / 2 := by
      split <;> omega
    rw [e]
    refine fm_congr fun k => ?_
    show l[((1 : Int) + 2 * (k : Int)).toNat]? = _
    congr 1
    omega
theorem ev_len : ∀ l : List Int, (evens l).length ≤ l.length
  | [] => by simp [evens]
  | [a] => by simp [evens]
  | a :: b :: r => by
    have := ev_len r
    simp only [evens, List.length_cons]
    omega
def shownB (p n : Nat) (l : List Int) : Bool := (decide (l.length % 2 = 0) && decide (evens l).Nodup) && ((evens l).all (fun x => decide (0 ≤ x ∧ x < n)) && (odds l).all (isKe p))
def sp_cshown (A : Ads) : Sp := fun vs H Q E => ∃ (a t : Addr) (l : List Int) (n : Nat) (tb : Vbndal.Table), vs = [.ref a, .int n, .ref t] ∧ H a = some (IL l) ∧ l.length ≤ 60 ∧ TbAt A H t tb ∧ Cm.Pr tb.prime ∧ Chk A (shownB tb.prime n l) H Q E
theorem fn_check_shown (T : Txt K mg A) : FnAt P w K mg base (L2.CX P w) 5 "check_shown" ["shown", "many", "table"] (sp_cshown A) := by
  refine T.d_check_shown.fnX sc_check_shown (fun vs H Q E h => by obtain ⟨_, _, _, _, _, rfl, _⟩ := h; rfl) (fun f cdv Ar outer s H vs Q E hr h => ⟨_, (pss_cons (ps_expr (pe_fn (fn_need T) (hr.mono (by decide)) (passes_call (takes_of rfl rfl rfl rfl) (fun _ _ _ _ h => h)) (pa_cons (pe_and (pe_cmpR op_eq (pe_op op_mod (pe_callB len_I (by rfl) T.b_len (by decide +kernel) (pa_cons (pv 0) pa_nil)) pe_int) pe_int (nomark _)) (pe_one (pe_fn (fn_are_different T) (hr.mono (by decide)) pass0 (pa_cons (pe_stepI (pv 0) po_none) pa_nil)))) pa_nil))) (pss_cons (ps_for (passes_of rfl) rfl (pi_IL K (pe_stepI (pv 0) po_none)) (pg_name (i := 3) sc_check_shown.nd rfl (Or.inl rfl)) (pss_one (ps_expr (pe_fn (fn_check_position T) (hr.mono (by decide)) (passes_call (takes_of rfl rfl rfl rfl) (fun _ _ _ _ h => h)) (pa_cons (pv 3) (pa_cons (pv 1) pa_nil)))))) (pss_one (ps_for (passes_of rfl) rfl (pi_IL K (pe_stepI (pv 0) (po_some pe_int))) (pg_name (i := 4) sc_check_shown.nd rfl (Or.inl rfl)) (pss_one (ps_expr (pe_fn (fn_check_key T) (hr.mono (by decide)) (passes_call (takes_of rfl rfl rfl rfl) (fun _ _ _ _ h => h)) (pa_cons (pv 4) (pa_cons (pv 2) pa_nil))))))))), ?_⟩)
  obtain ⟨a, t, l, n, tb, rfl, ha, hl, ht, hP, q1, q2⟩ := h
  have he := ev_len l
  walk_at "rd"
  refine ⟨by decide, ?_⟩
  rw [step_ev]
  split
  · intro x hx
    have s1 : Same H (upd H x (IL (evens l))) := Same.new hx
    refine ⟨x, evens l, rfl, upd_same, by omega, fun H1 s2 => ⟨_, rfl, fun hb => ?_, fun hb => RefE.mono (q2 ?_) (s1.trans s2)⟩⟩
    · have ha1 := s2 _ _ (s1 _ _ ha)
      have sB : Same H H1 := s1.trans s2
      walk_at "rd"
      rw [step_ev]
      intro y hy
      have eS : shownB tb.prime n l = ((evens l).all (fun x => decide (0 ≤ x ∧ x < n)) && (odds l).all (isKe tb.prime)) := by
        unfold shownB
        rw [decide_eq_true (by omega), hb, Bool.true_and, Bool.true_and]
      rw [eS] at q1 q2
      have s3 : Same H (upd H1 y (IL (evens l))) := sB.trans (Same.new hy)
      have ha2 := s3 _ _ ha
      refine for_w walk_IL (fun i σ H' => H' = upd H1 y (IL (evens l)) ∧ (∃ v, σ = [some (.ref a), some (.int n), some (.ref t), v, none]) ∧ ((evens l).take i).all (fun x => decide (0 ≤ x ∧ x < n)) = true) ⟨rfl, ⟨_, rfl⟩, by simp⟩ (fun i σ H' _ hh => by rw [hh.1, upd_same]) (fun i x σ H1 H2 hlt hh y => ?_) fun σ H1 hh => ?_
      · obtain ⟨rfl, ⟨v, rfl⟩, hv⟩ := hh
        obtain ⟨rfl, m, hm, rfl⟩ := y
        walk_at "r0"
        refine ⟨m, n, rfl, fun hb => by walk_at "r0"; exact all_take hm hv (by simpa using hb), fun hb => (q2 ?_).mono s3⟩
        rw [all_false hm hb, Bool.false_and]
      · obtain ⟨rfl, ⟨v, rfl⟩, hv⟩ := hh
        rw [List.take_length] at hv
        rw [hv, Bool.true_and] at q1 q2
        walk_at "rd"
        rw [step_od]
        intro z hz
        have s4 := s3.trans (Same.new hz (o := IL (odds l)))
        have ht2 := ht.mono s4
        refine for_w walk_IL (fun i σ H' => H' = upd (upd H1 y (IL (evens l))) z (IL (odds l)) ∧ (∃ w, σ = [some (.ref a), some (.int n), some (.ref t), v, w]) ∧ ((odds l).take i).all (isKe tb.prime) = true) ⟨rfl, ⟨_, rfl⟩, by simp⟩ (fun i σ H' _ hh => by rw [hh.1, upd_same]) (fun i x σ H1 H2 hlt hh y => ?_) fun σ H1 hh => ?_
        · obtain ⟨rfl, ⟨v, rfl⟩, hv⟩ := hh
          obtain ⟨rfl, m, hm, rfl⟩ := y
          walk_at "r0"
          exact ⟨m, t, tb, rfl, ht2, hP, fun hb => by walk_at "r0"; exact all_take hm hv hb, fun hb => (q2 (all_false hm hb)).mono s4⟩
        · obtain ⟨rfl, _, hv⟩ := hh
          rw [List.take_length] at hv
          walk_at "r0"
          exact q1 hv _ s4
    · unfold shownB
      rw [hb, Bool.and_false, Bool.false_and]
  · refine ⟨false, rfl, fun z => (nomatch z), fun _ => q2 ?_⟩
    unfold shownB
    rw [decide_eq_false (by omega), Bool.false_and, Bool.false_and]
end
end Cl
set_option Elab.async false
set_option linter.all false
set_option maxRecDepth 100000
set_option maxHeartbeats 4000000
namespace Cl
open PySem PySem.Spec PyProof.Rows L2
local macro_rules | `(tactic| walk_at "rd") => `(tactic| try simp only [tSeq, tAsg, tVar, tC, tOp, tTest, tIfS, tNext, tRet, tDrop, gName, rI0, rI, rU, tUn, rEq_int, rNe_int, tFn, tFnS, tCons, tNil, tChain, tAndV, tOrV, tNotV, tAnd, tOr, tNot, tB, tIf, L2.start, tFor_eq, tLc_eq, iIL, iRL, iRng1, iRng2, iRng3, iEnR, iEnI, iZpR, iZpI, iStr, iTup, rIxI, rIxR, rIxRL, rIxK, rSlI, tSl, tNoPart, tPart, rInI, rNotInI, rInK, rInT, rInF, rInL, rLenI, rLenR, rLenA, rListI, rSortI', rAllB, rEqI, rNeI, rCatI, rCatS, tLM, rAppI, rAppR, rExtI, rIdxI, tLstI, tLstS, tFldT, sFldT, gUnI, gUnR, gTupT, gCons, gNil, sAugT, tTup, tLst, tCB, tAug, ipI, tPar, tM1, tMth, tMk, tRz, tRangeL, tYes, allInts, tupInts, allStrs, tupStrs, L2.rIsN, tIsN, rgV,
  List.map_cons, List.map_nil, List.length_cons, List.length_nil, Nat.zero_add, Nat.reduceAdd, Nat.reduceSub, Nat.reduceLeDiff, Nat.sub_zero, List.replicate_succ, List.replicate_zero, List.cons_append, List.nil_append, List.append_nil, List.set_cons_zero, List.set_cons_succ, List.getElem?_cons_zero, List.getElem?_cons_succ, Option.some.injEq, exists_and_left, exists_and_right, exists_eq_left', exists_eq_left, ex_il, ex_rl, ex_sl, lk_tok1, lk_tok2, lk_tok3, lk_tok4, lk_rdr1, lk_rdr2, lk_rdr3, lk_rdr4, lk_rdr5, lk_ply1, lk_ply2, lk_tbl1, lk_tbl2, lk_tbl3, lk_cal1, lk_cal2, lk_cal3, lk_dsk1, lk_dsk2, lk_dsk3, pt_rdr2, pt_dsk2, len_rdr, len_dsk, Nat.reduceLT, HO.lst.injEq, Int.zero_add, exists_eq, exists_eq', V.int.injEq, V.ref.injEq, V.bl.injEq, V.str.injEq, List.cons.injEq, HO.ins.injEq, HO.tup.injEq, il_inj, rl_inj, sl_inj, bl_inj, and_assoc, true_and, and_true, decide_eq_true_eq, Bool.not_eq_true', decide_eq_false_iff_not, reduceCtorEq, upd_same, upd_old, Option.isSome_some, Option.isSome_none, ite_true, ite_false, wipe, *])
local macro_rules | `(tactic| walk_at "r0") => `(tactic| try simp only [tSeq, tAsg, tVar, tC, tOp, tTest, tIfS, tNext, tRet, tDrop, gName, rI0, rI, rU, tUn, rEq_int, rNe_int, tFn, tFnS, tCons, tNil, tChain, tAndV, tOrV, tNotV, tAnd, tOr, tNot, tB, tIf, L2.start, tFor_eq, tLc_eq, iIL, iRL, iRng1, iRng2, iRng3, iEnR, iEnI, iZpR, iZpI, iStr, iTup, rIxI, rIxR, rIxRL, rIxK, rSlI, tSl, tNoPart, tPart, rInI, rNotInI, rInK, rInT, rInF, rInL, rLenI, rLenR, rLenA, rListI, rSortI', rAllB, rEqI, rNeI, rCatI, rCatS, tLM, rAppI, rAppR, rExtI, rIdxI, tLstI, tLstS, tFldT, sFldT, gUnI, gUnR, gTupT, gCons, gNil, sAugT, tTup, tLst, tCB, tAug, ipI, tPar, tM1, tMth, tMk, tRz, tRangeL, tYes, allInts, tupInts, allStrs, tupStrs, L2.rIsN, tIsN, rgV,
  List.map_cons, List.map_nil, List.length_cons, List.length_nil, Nat.zero_add, Nat.reduceAdd, Nat.reduceSub, Nat.reduceLeDiff, Nat.sub_zero, List.replicate_succ, List.replicate_zero, List.cons_append, List.nil_append, List.append_nil, List.set_cons_zero, List.set_cons_succ, List.getElem?_cons_zero, List.getElem?_cons_succ, Option.some.injEq, exists_and_left, exists_and_right, exists_eq_left', exists_eq_left, ex_il, ex_rl, ex_sl, lk_tok1, lk_tok2, lk_tok3, lk_tok4, lk_rdr1, lk_rdr2, lk_rdr3, lk_rdr4, lk_rdr5, lk_ply1, lk_ply2, lk_tbl1, lk_tbl2, lk_tbl3, lk_cal1, lk_cal2, lk_cal3, lk_dsk1, lk_dsk2, lk_dsk3, pt_rdr2, pt_dsk2, len_rdr, len_dsk, Nat.reduceLT, HO.lst.injEq, Int.zero_add, exists_eq, exists_eq', V.int.injEq, V.ref.injEq, V.bl.injEq, V.str.injEq, List.cons.injEq, HO.ins.injEq, HO.tup.injEq, il_inj, rl_inj, sl_inj, bl_inj, and_assoc, true_and, and_true, decide_eq_true_eq, Bool.not_eq_true', decide_eq_false_iff_not, reduceCtorEq, upd_same, upd_old, Option.isSome_some, Option.isSome_none, ite_true, ite_false, wipe])
section
variable {P : Program} {w : World} {K : PySem.W.Frag} {mg : Str → Option Value} {base : Heap} {A : Ads}
open Vbndal (isLetter isDigit)
/-! ### tokens -/
def TkAt (A : Ads) (H : Hp) (b : Addr) (k : Cm.Tk) : Prop := ∃ dx sa, H b = some (.ins A.tok dx (tokF k.kind k.off sa)) ∧ H sa = some (IL (nI k.signs))
theorem TkAt.mono {A : Ads} {H H' : Hp} {a : Addr} {y : Cm.Tk} (s : Same H H') : TkAt A H a y → TkAt A H' a y := fun ⟨dx, na, h1, h2⟩ => ⟨dx, na, s _ _ h1, s _ _ h2⟩
theorem Same.mk {H : Hp} {x dx : Addr} {o u w : HO} (nx : H x = none) (nd : H dx = none) : Same H (upd (upd (upd H dx o) x u) x w) := by
  rw [upd_upd]
  exact Same.mut (Same.new nd) nx
def sp_isletter : Sp := fun vs H Q _ => ∃ c : Nat, vs = [.int c] ∧ Q (.bl (isLetter c)) H
theorem fn_is_letter (T : Txt K mg A) : FnAt P w K mg base CX0 1 "is_letter" ["sign"] sp_isletter := by
  refine T.d_is_letter.fn sc_is_letter (fun vs H Q E h => by obtain ⟨_, rfl, _⟩ := h; rfl) (fun f cdv Ar outer s H vs Q E hr h => ⟨_, (pss_one (ps_ret (pe_chain op_le op_le pe_int (pv 0) pe_int))), ?_⟩)
  obtain ⟨c, rfl, q⟩ := h
  walk_at "rd"
  split
  · have e : decide ((c : Int) ≤ 122) = isLetter c := by
      unfold isLetter
      rw [decide_eq_true (by omega : 97 ≤ c), Bool.true_and]
      exact decide_eq_decide.mpr (by omega)
    rw [e]
    exact q
  · have e : isLetter c = false := by
      unfold isLetter
      rw [decide_eq_false (by omega), Bool.false_and]
    rw [← e]
    exact q
def sp_isdigit : Sp := fun vs H Q _ => ∃ c : Nat, vs = [.int c] ∧ Q (.bl (isDigit c)) H
theorem fn_is_digit (T : Txt K mg A) : FnAt P w K mg base CX0 1 "is_digit" ["sign"] sp_isdigit := by
  refine T.d_is_digit.fn sc_is_digit (fun vs H Q E h => by obtain ⟨_, rfl, _⟩ := h; rfl) (fun f cdv Ar outer s H vs Q E hr h => ⟨_, (pss_one (ps_ret (pe_chain op_le op_le (pe_ki T.k_ZERO) (pv 0) (pe_op op_add (pe_ki T.k_ZERO) pe_int)))), ?_⟩)
  obtain ⟨c, rfl, q⟩ := h
  walk_at "rd"
  split
  · have e : decide ((c : Int) ≤ 48 + 9) = isDigit c := by
      unfold isDigit
      rw [decide_eq_true (by omega : 48 ≤ c), Bool.true_and]
      exact decide_eq_decide.mpr (by omega)
    rw [e]
    exact q
  · have e : isDigit c = false := by
      unfold isDigit
      rw [decide_eq_false (by omega), Bool.false_and]
    rw [← e]
    exact q
/-- how many signs from a place on are of a kind -/
def run (p : Nat → Bool) (t : List Nat) (i : Nat) : Nat := ((t.drop i).takeWhile p).length
theorem run_le (p : Nat → Bool) (t : List Nat) (i : Nat) (h : i ≤ t.length) : i + run p t i ≤ t.length := by
  have := (List.takeWhile_prefix p (l := t.drop i)).length_le
  rw [List.length_drop] at this
  unfold run
  omega
theorem run_in (p : Nat → Bool) : ∀ (l : List Nat) (j : Nat), j < (l.takeWhile p).length → ∃ c, l[j]? = some c ∧ p c = true
  | [], j, h => by simp at h
  | c :: l, j, h => by
    cases e : p c with
    | false =>
      rw [List.takeWhile_cons_of_neg (by rw [e]; exact Bool.false_ne_true)] at h
      simp at h
    | true =>
      rw [List.takeWhile_cons_of_pos e] at h
      cases j with
      | zero => exact ⟨c, rfl, e⟩
      | succ j => exact run_in p l j (by simpa using h)
theorem run_out (p : Nat → Bool) : ∀ (l : List Nat) (c : Nat), l[(l.takeWhile p).length]? = some c → p c = false
  | [], c, h => by simp at h
  | x :: l, c, h => by
    cases e : p x with
    | false =>
      rw [List.takeWhile_cons_of_neg (by rw [e]; exact Bool.false_ne_true)] at h
      simp at h
      exact h ▸ e
    | true =>
      rw [List.takeWhile_cons_of_pos e] at h
      exact run_out p l c (by simpa using h)
def sp_behind (p : Nat → Bool) : Sp := fun vs H Q _ => ∃ (a : Addr) (t : List Nat) (i : Nat), vs = [.ref a, .int i] ∧ H a = some (IL (nI t)) ∧ i ≤ t.length ∧ Q (.int (i + run p t i : Nat)) H
theorem fn_behind_letters (T : Txt K mg A) : FnAt P w K mg base CX0 2 "behind_letters" ["text", "at"] (sp_behind isLetter) := by
  refine T.d_behind_letters.fn sc_behind_letters (fun vs H Q E h => by obtain ⟨_, _, _, rfl, _⟩ := h; rfl) (fun f cdv Ar outer s H vs Q E hr h => ⟨_, (pss_cons (ps_set (i := 2) sc_behind_letters.nd rfl (.inl rfl) (pv 1)) (pss_cons (ps_while PassesOwn.never (PW.pt (pw_and (pt_cmpR op_lt (pv 2) (pe_callB len_I (by rfl) T.b_len (by decide +kernel) (pa_cons (pv 0) pa_nil)) (nomark _)) (pw_and1 (pt_val (pe_fn (fn_is_letter T) (hr.mono (by decide)) pass0 (pa_cons (pe_ix ix_I (pv 0) (pv 2) (fun _ _ => rfl)) pa_nil)))))) (pss_one (ps_aug (i := 2) sc_behind_letters.nd rfl (.inl rfl) pe_int ip_add))) (pss_one (ps_ret (pv 2))))), ?_⟩)
  obtain ⟨a, t, i, rfl, ha, hi, q⟩ := h
  walk_at "rd"
  refine while_m (fun m σ H' => H' = H ∧ ∃ j : Nat, m = t.length - j ∧ j ≤ t.length ∧ σ = [some (.ref a), some (.int i), some (.int j)] ∧ i ≤ j ∧ j ≤ i + run isLetter t i) (t.length - i) ⟨rfl, i, rfl, hi, rfl, Nat.le_refl _, Nat.le_add_right _ _⟩ ?_
  rintro m σ H' ⟨rfl, j, rfl, hj, rfl, h1, h2⟩
  walk_at "rd"
  have hle := run_le isLetter t i hi
  have stop : ¬ j < i + run isLetter t i → Q (.int j) H' := fun z => by
    have e : j = i + run isLetter t i := by omega
    rw [e]
    exact q
  rw [nI_len]
  split
  · rename_i h3
    have hj2 : j < t.length := by omega
    refine ⟨by omega, by omega, t.getD j 0, ?_, ?_⟩
    · rw [nI_getD, Int.toNat_natCast]
    · walk_at "rd"
      have hg : t[j]? = some (t.getD j 0) := by
        rw [List.getD_eq_getElem?_getD, List.getElem?_eq_getElem hj2]
        rfl
      cases e : isLetter (t.getD j 0) with
      | true =>
        rw [if_pos rfl]
        refine ⟨_, fun _ _ h => h, _, ?_, rfl, j + 1, rfl, by omega, by simp, by omega, ?_⟩
        · omega
        · rcases Nat.lt_or_ge j (i + run isLetter t i) with z | z
          · omega
          · exfalso
            have e2 : j = i + run isLetter t i := by omega
            have := run_out isLetter (t.drop i) (t.getD j 0) (by rw [List.getElem?_drop, ← hg]; congr 1; exact e2.symm)
            rw [e] at this
            cases this
      | false =>
        rw [if_neg Bool.false_ne_true]
        refine stop fun z => ?_
        obtain ⟨c, hc, hp⟩ := run_in isLetter (t.drop i) (j - i) (by unfold run at z; omega)
        rw [List.getElem?_drop, show i + (j - i) = j by omega, hg] at hc
        rw [Option.some.inj hc, hp] at e
        cases e
  · exact stop (by omega)
theorem fn_behind_digits (T : Txt K mg A) : FnAt P w K mg base CX0 2 "behind_digits" ["text", "at"] (sp_behind isDigit) := by
  refine T.d_behind_digits.fn sc_behind_digits (fun vs H Q E h => by obtain ⟨_, _, _, rfl, _⟩ := h; rfl) (fun f cdv Ar outer s H vs Q E hr h => ⟨_, (pss_cons (ps_set (i := 2) sc_behind_digits.nd rfl (.inl rfl) (pv 1)) (pss_cons (ps_while PassesOwn.never (PW.pt (pw_and (pt_cmpR op_lt (pv 2) (pe_callB len_I (by rfl) T.b_len (by decide +kernel) (pa_cons (pv 0) pa_nil)) (nomark _)) (pw_and1 (pt_val (pe_fn (fn_is_digit T) (hr.mono (by decide)) pass0 (pa_cons (pe_ix ix_I (pv 0) (pv 2) (fun _ _ => rfl)) pa_nil)))))) (pss_one (ps_aug (i := 2) sc_behind_digits.nd rfl (.inl rfl) pe_int ip_add))) (pss_one (ps_ret (pv 2))))), ?_⟩)
  obtain ⟨a, t, i, rfl, ha, hi, q⟩ := h
  walk_at "rd"
  refine while_m (fun m σ H' => H' = H ∧ ∃ j : Nat, m = t.length - j ∧ j ≤ t.length ∧ σ = [some (.ref a), some (.int i), some (.int j)] ∧ i ≤ j ∧ j ≤ i + run isDigit t i) (t.length - i) ⟨rfl, i, rfl, hi, rfl, Nat.le_refl _, Nat.le_add_right _ _⟩ ?_
  rintro m σ H' ⟨rfl, j, rfl, hj, rfl, h1, h2⟩
  walk_at "rd"
  have hle := run_le isDigit t i hi
  have stop : ¬ j < i + run isDigit t i → Q (.int j) H' := fun z => by
    have e : j = i + run isDigit t i := by omega
    rw [e]
    exact q
  rw [nI_len]
  split
  · rename_i h3
    have hj2 : j < t.length := by omega
    refine ⟨by omega, by omega, t.getD j 0, ?_, ?_⟩
    · rw [nI_getD, Int.toNat_natCast]
    · walk_at "rd"
      have hg : t[j]? = some (t.getD j 0) := by
        rw [List.getD_eq_getElem?_getD, List.getElem?_eq_getElem hj2]
        rfl
      cases e : isDigit (t.getD j 0) with
      | true =>
        rw [if_pos rfl]
        refine ⟨_, fun _ _ h => h, _, ?_, rfl, j + 1, rfl, by omega, by simp, by omega, ?_⟩
        · omega
        · rcases Nat.lt_or_ge j (i + run isDigit t i) with z | z
          · omega
          · exfalso
            have e2 : j = i + run isDigit t i := by omega
            have := run_out isDigit (t.drop i) (t.getD j 0) (by rw [List.getElem?_drop, ← hg]; congr 1; exact e2.symm)
            rw [e] at this
            cases this
      | false =>
        rw [if_neg Bool.false_ne_true]
        refine stop fun z => ?_
        obtain ⟨c, hc, hp⟩ := run_in isDigit (t.drop i) (j - i) (by unfold run at z; omega)
        rw [List.getElem?_drop, show i + (j - i) = j by omega, hg] at hc
        rw [Option.some.inj hc, hp] at e
        cases e
  · exact stop (by omega)
def numOk (sg : List Nat) : Bool := decide (sg.length ≤ 3 ∧ (sg.length = 1 ∨ sg.getD 0 0 ≠ 48))
def sp_isnumber : Sp := fun vs H Q _ => ∃ (a : Addr) (sg : List Nat), vs = [.ref a] ∧ H a = some (IL (nI sg)) ∧ 1 ≤ sg.length ∧ Q (.bl (numOk sg)) H
theorem fn_is_number (T : Txt K mg A) : FnAt P w K mg base CX0 1 "is_number" ["signs"] sp_isnumber := by
  refine T.d_is_number.fn sc_is_number (fun vs H Q E h => by obtain ⟨_, _, rfl, _⟩ := h; rfl) (fun f cdv Ar outer s H vs Q E hr h => ⟨_, (pss_one (ps_ret (pe_and (pe_cmpR op_le (pe_callB len_I (by rfl) T.b_len (by decide +kernel) (pa_cons (pv 0) pa_nil)) (pe_ki T.k_LONGEST_NUMBER) (nomark _)) (pe_one (pe_or (pe_cmpR op_eq (pe_callB len_I (by rfl) T.b_len (by decide +kernel) (pa_cons (pv 0) pa_nil)) pe_int (nomark _)) (pe_one (pe_cmpR op_ne (pe_ix ix_I (pv 0) pe_int (fun _ _ => rfl)) (pe_ki T.k_ZERO) (nomark _)))))))), ?_⟩)
  obtain ⟨a, sg, rfl, ha, hl, q⟩ := h
  have e0 : numOk sg = decide (sg.length ≤ 3 ∧ (sg.length = 1 ∨ sg.getD 0 0 ≠ 48)) := rfl
  walk_at "rd"
  rw [nI_len]
  have e3 : (nI sg).getD (0 : Int).toNat 0 = ((sg.getD 0 0 : Nat) : Int) := nI_getD sg 0
  split
  · split
    · have e : numOk sg = true := decide_eq_true (by omega)
      rw [e] at q
      exact q
    · refine ⟨by decide, by omega, ?_⟩
      rw [e3]
      have e : (!decide (((sg.getD 0 0 : Nat) : Int) = 48)) = numOk sg := by
        rw [e0, ← decide_not]
        exact decide_eq_decide.mpr (by omega)
      rw [e]
      exact q
  · have e : numOk sg = false := decide_eq_false (by omega)
    rw [← e]
    exact q
def sp_tok (A : Ads) : Sp := fun vs H Q _ => ∃ (x dx : Addr) (k o : Int) (s : Addr), vs = [.ref x, .int k, .int o, .ref s] ∧ H x = some (.ins A.tok dx []) ∧ Q .non (upd H x (.ins A.tok dx (tokF k o s)))
theorem mk_Token (T : Txt K mg A) : MkAt P w K mg base 1 "Token" A.tok ["self", "kind", "offset", "signs"] (sp_tok A) := by
  refine T.c_Token.mk_ sc_Token___init__ (fun vs H Q E h => by obtain ⟨_, _, _, _, _, rfl, _⟩ := h; rfl) (fun f cdv Ar outer s H vs Q E hr h => ⟨_, (pss_cons (ps_fldT T.c_Token.cl T.n_Token_kind (pv 0) (pv 1) rfl) (pss_cons (ps_fldT T.c_Token.cl T.n_Token_offset (pv 0) (pv 2) rfl) (pss_one (ps_fldT T.c_Token.cl T.n_Token_signs (pv 0) (pv 3) rfl)))), ?_⟩)
  obtain ⟨x, dx, k, o, s, rfl, hx, q⟩ := h
  walk_at "rd"
  rw [upd_upd, upd_upd, pt_tok]
  exact ⟨(by show 1 < 1000; decide), (by show 2 < 1000; decide), q⟩
def sp_number (A : Ads) : Sp := fun vs H Q _ => ∃ (b : Addr) (i : Nat) (sg : List Nat), vs = [.ref b] ∧ TkAt A H b ⟨2, i, sg⟩ ∧ (∀ c ∈ sg, 48 ≤ c ∧ c ≤ 57) ∧ Q (.int (Vbndal.decimalValue sg : Nat)) H
theorem fn_Token_number (T : Txt K mg A) : MthAt P w K mg base CX0 1 A.tok "number" ["self"] (sp_number A) := by
  refine T.m_Token_number.fn sc_Token_number (fun vs H Q E h => by obtain ⟨_, _, _, rfl, _⟩ := h; rfl) (fun f cdv Ar outer s H vs Q E hr h => ⟨_, (pss_cons (ps_set (i := 1) sc_Token_number.nd rfl (.inl rfl) pe_int) (pss_cons (ps_for PassesOwn.never rfl (pi_IL K (pe_fldT T.c_Token.cl T.n_Token_signs (pv 0) rfl)) (pg_name (i := 2) sc_Token_number.nd rfl (Or.inl rfl)) (pss_one (ps_set (i := 1) sc_Token_number.nd rfl (.inl rfl) (pe_op op_sub (pe_op op_add (pe_op op_mul pe_int (pv 1)) (pv 2)) (pe_ki T.k_ZERO))))) (pss_one (ps_ret (pv 1))))), ?_⟩)
  obtain ⟨b, i, sg, rfl, ⟨dx, sa, h1, h2⟩, hs, q⟩ := h
  walk_at "rd"
  refine for_w walk_IL (fun j σ H' => H' = H ∧ ∃ v, σ = [some (.ref b), some (.int (Vbndal.decimalValue (sg.take j) : Nat)), v]) ⟨rfl, _, rfl⟩ (fun j σ H' _ hh => by rw [hh.1]; exact h2) (fun j x σ H1 H2 hlt hh y => ?_) fun σ H1 hh => ?_
  · obtain ⟨rfl, v, rfl⟩ := hh
    obtain ⟨rfl, n, hn, rfl⟩ := y
    obtain ⟨c, hc, rfl⟩ := nI_get hn
    have hb := hs c (mem_of_get hc)
    walk_at "r0"
    refine ⟨.inl ⟨by decide, by decide⟩, ?_⟩
    have e : Vbndal.decimalValue (sg.take (j + 1)) = 10 * Vbndal.decimalValue (sg.take j) + (c - 48) := by
      rw [take_more hc]
      unfold Vbndal.decimalValue
      rw [List.foldl_append]
      rfl
    rw [e]
    push_cast
    omega
  · obtain ⟨rfl, v, rfl⟩ := hh
    walk_at "r0"
    rw [nI_len, List.take_length]
    exact q
theorem nI_cut {t : List Nat} {i j : Nat} (h : i ≤ j) (h2 : j ≤ t.length) : cutI (nI t) (some (i : Int)) (some (j : Int)) = nI ((t.drop i).take (j - i)) := by
  rw [cut_mid (by omega) (by omega) (by rw [nI_len]; omega)]
  unfold nI
  rw [← List.map_drop, ← List.map_take]
  congr 2
  omega
theorem take_run (p : Nat → Bool) (l : List Nat) : l.take (l.takeWhile p).length = l.takeWhile p := by
  have h := List.takeWhile_prefix p (l := l)
  exact (List.prefix_iff_eq_take.mp h).symm
def sp_tokenat (A : Ads) : Sp := fun vs H Q _ => ∃ (a : Addr) (t : List Nat) (i : Nat), vs = [.ref a, .int i] ∧ H a = some (IL (nI t)) ∧ i < t.length ∧ t.length ≤ 1000 ∧ ∀ H' b, Same H H' → TkAt A H' b (Cm.tkAt i (t.drop i)) → H b = none → Q (.ref b) H'
theorem tok_made {A : Ads} {H H1 : Hp} {Q : VK} {k : Cm.Tk} {p x dx : Addr} (q : ∀ H' b, Same H H' → TkAt A H' b k → H b = none → Q (.ref b) H') (s : Same H H1) (h1 : H1 p = some (IL (nI k.signs))) (hx : H1 x = none) (hd : H1 dx = none) (hne : dx ≠ x) :
    sp_tok A [.ref x, .int k.kind, .int k.off, .ref p] (upd (upd H1 dx (.own x)) x (.ins A.tok dx [])) (fun v H2 => v = .non ∧ Q (.ref x) H2) E0 := by
  have s2 := Same.mk hx hd (o := .own x) (u := .ins A.tok dx []) (w := .ins A.tok dx (tokF k.kind k.off p))
  exact ⟨x, dx, _, _, p, rfl, upd_same, rfl, q _ x (s.trans s2) ⟨dx, p, upd_same, s2 _ _ h1⟩ (s.free hx)⟩
theorem fn_token_at (T : Txt K mg A) : FnAt P w K mg base CX0 3 "token_at" ["text", "at"] (sp_tokenat A) := by
  refine T.d_token_at.fn sc_token_at (fun vs H Q E h => by obtain ⟨_, _, _, rfl, _⟩ := h; rfl) (fun f cdv Ar outer s H vs Q E hr h => ⟨_, (pss_cons (ps_if (pt_val (pe_fn (fn_is_letter T) (hr.mono (by decide)) pass0 (pa_cons (pe_ix ix_I (pv 0) (pv 1) (fun _ _ => rfl)) pa_nil))) (pss_cons (ps_set (i := 2) sc_token_at.nd rfl (.inl rfl) (pe_slice sl_I (pv 0) (po_some (pv 1)) (po_some (pe_fn (fn_behind_letters T) (hr.mono (by decide)) pass0 (pa_cons (pv 0) (pa_cons (pv 1) pa_nil)))))) (pss_one (ps_ret (pe_mk1 (mk_Token T) (hr.mono (by decide)) (pa_cons (pe_ifExp (pt_cmpR op_le (pe_callB len_I (by rfl) T.b_len (by decide +kernel) (pa_cons (pv 2) pa_nil)) (pe_ki T.k_LONGEST_WORD) (nomark _)) (pe_ki T.k_WORD) (pe_ki T.k_WRONG)) (pa_cons (pv 1) (pa_cons (pv 2) pa_nil))))))) pss_nil) (pss_cons (ps_if (pt_val (pe_fn (fn_is_digit T) (hr.mono (by decide)) pass0 (pa_cons (pe_ix ix_I (pv 0) (pv 1) (fun _ _ => rfl)) pa_nil))) (pss_cons (ps_set (i := 2) sc_token_at.nd rfl (.inl rfl) (pe_slice sl_I (pv 0) (po_some (pv 1)) (po_some (pe_fn (fn_behind_digits T) (hr.mono (by decide)) pass0 (pa_cons (pv 0) (pa_cons (pv 1) pa_nil)))))) (pss_one (ps_ret (pe_mk1 (mk_Token T) (hr.mono (by decide)) (pa_cons (pe_ifExp (pt_val (pe_fn (fn_is_number T) (hr.mono (by decide)) pass0 (pa_cons (pv 2) pa_nil))) (pe_ki T.k_NUMBER) (pe_ki T.k_WRONG)) (pa_cons (pv 1) (pa_cons (pv 2) pa_nil))))))) pss_nil) (pss_one (ps_ret (pe_mk1 (mk_Token T) (hr.mono (by decide)) (pa_cons (pe_ifExp (pt_cmpR op_eq (pe_ix ix_I (pv 0) (pv 1) (fun _ _ => rfl)) (pe_ki T.k_SEMICOLON) (nomark _)) (pe_ki T.k_MARK) (pe_ki T.k_WRONG)) (pa_cons (pv 1) (pa_cons (pe_lstI (pa_cons (pe_ix ix_I (pv 0) (pv 1) (fun _ _ => rfl)) pa_nil)) pa_nil)))))))), ?_⟩)
  obtain ⟨a, t, i, rfl, ha, hi, hl, q⟩ := h
  obtain ⟨c, r, hd⟩ : ∃ c r, t.drop i = c :: r := ⟨_, _, (List.getElem_cons_drop hi).symm⟩
  have hg : t.getD i 0 = c := by
    have : (t.drop i)[0]? = some c := by rw [hd]; rfl
    rw [List.getElem?_drop] at this
    rw [List.getD_eq_getElem?_getD]
    simp at this
    simp [this]
  have hgI : (nI t).getD ((i : Int)).toNat 0 = ((c : Nat) : Int) := by
    rw [Int.toNat_natCast, nI_getD, hg]
  have hlen : (0 : Int) ≤ (i : Int) ∧ (i : Int) < ((nI t).length : Int) := by
    rw [nI_len]
    omega
  have cutr : ∀ p : Nat → Bool, cutI (nI t) (some (i : Int)) (some ((i + run p t i : Nat) : Int)) = nI ((c :: r).takeWhile p) := fun p => by
    rw [nI_cut (by omega) (run_le p t i (by omega))]
    unfold run
    rw [show i + ((t.drop i).takeWhile p).length - i = ((t.drop i).takeWhile p).length by omega, take_run, hd]
  rw [hd] at q
  walk_at "rd"
  refine ⟨c, rfl, _, rfl, ?_⟩
  by_cases e3 : isLetter c = true
  · have e : Cm.tkAt i (c :: r) = ⟨if ((c :: r).takeWhile isLetter).length ≤ 8 then 1 else 4, i, (c :: r).takeWhile isLetter⟩ := by
      unfold Cm.tkAt
      simp only []
      rw [if_pos e3]
    rw [e] at q
    rw [if_pos e3]
    refine ⟨a, t, i, rfl, ha, by omega, ?_⟩
    walk_at "rd"
    rw [nI_len]
    intro p hp
    split
    · rename_i h8
      rw [if_pos (by omega)] at q
      exact fun x dx hx hdx hne => tok_made q (Same.new hp) upd_same hx hdx hne
    · rename_i h8
      rw [if_neg (by omega)] at q
      exact fun x dx hx hdx hne => tok_made q (Same.new hp) upd_same hx hdx hne
  · rw [if_neg e3]
    refine ⟨_, ha, hlen.2, c, by rw [hgI], _, rfl, ?_⟩
    by_cases e4 : isDigit c = true
    · have e : Cm.tkAt i (c :: r) = ⟨if ((c :: r).takeWhile isDigit).length ≤ 3 ∧ (((c :: r).takeWhile isDigit).length = 1 ∨ c ≠ 48) then 2 else 4, i, (c :: r).takeWhile isDigit⟩ := by
        unfold Cm.tkAt
        simp only []
        rw [if_neg e3, if_pos e4]
      have hfst : ((c :: r).takeWhile isDigit).getD 0 0 = c := by
        rw [List.takeWhile_cons_of_pos e4]
        rfl
      have hpos : 1 ≤ ((c :: r).takeWhile isDigit).length := by
        rw [List.takeWhile_cons_of_pos e4, List.length_cons]
        omega
      rw [e] at q
      rw [if_pos e4]
      refine ⟨a, t, i, rfl, ha, by omega, ?_⟩
      walk_at "rd"
      intro p hp
      refine ⟨p, _, rfl, upd_same, hpos, _, rfl, ?_⟩
      unfold numOk
      rw [hfst]
      split
      · rename_i h8
        rw [if_pos (of_decide_eq_true h8)] at q
        exact fun x dx hx hdx hne => tok_made q (Same.new hp) upd_same hx hdx hne
      · rename_i h8
        rw [if_neg (fun z => h8 (decide_eq_true z))] at q
        exact fun x dx hx hdx hne => tok_made q (Same.new hp) upd_same hx hdx hne
    · have e : Cm.tkAt i (c :: r) = ⟨if c = 59 then 3 else 4, i, [c]⟩ := by
        unfold Cm.tkAt
        simp only []
        rw [if_neg e3, if_neg e4]
      rw [e] at q
      rw [if_neg e4]
      walk_at "rd"
      have hone : ∀ p, (upd H p (IL [(c : Int)])) p = some (IL (nI [c])) := fun p => upd_same
      split
      · rename_i h8
        rw [if_pos (by omega)] at q
        refine fun p hp x dx hx hdx hne => ?_
        exact tok_made q (Same.new hp) (hone p) hx hdx hne
      · rename_i h8
        rw [if_neg (by omega)] at q
        refine fun p hp x dx hx hdx hne => ?_
        exact tok_made q (Same.new hp) (hone p) hx hdx hne
def sp_tokens (A : Ads) : Sp := fun vs H Q _ => ∃ (a : Addr) (t : List Nat), vs = [.ref a] ∧ H a = some (IL (nI t)) ∧ t.length ≤ 1000 ∧ ∀ H' b as ks, Same H H' → H' b = some (RL as) → Paired (TkAt A H') as ks → Cm.TR t.length (Cm.TZ 0 t) ks → Q (.ref b) H'
theorem il_rl {ns : List Int} {as : List Addr} (h : 1 ≤ ns.length) : IL ns ≠ RL as := by
  intro e
  have e := HO.lst.inj e
  cases ns with
  | nil => simp at h
  | cons n ns =>
    cases as with
    | nil => simp at e
    | cons a as =>
      rw [List.map_cons, List.map_cons] at e
      injection e with e1 _
      cases e1
/-- a token that does not lean on p -/
def TkN (A : Ads) (p : Addr) (H : Hp) (b : Addr) (k : Cm.Tk) : Prop := ∃ dx sa, H b = some (.ins A.tok dx (tokF k.kind k.off sa)) ∧ H sa = some (IL (nI k.signs)) ∧ sa ≠ p
theorem TkN.mono {A : Ads} {p : Addr} {H H' : Hp} {a : Addr} {y : Cm.Tk} (s : Same H H') : TkN A p H a y → TkN A p H' a y := fun ⟨dx, na, h1, h2, h3⟩ => ⟨dx, na, s _ _ h1, s _ _ h2, h3⟩
theorem TkN.upd {A : Ads} {p : Addr} {H : Hp} {a : Addr} {y : Cm.Tk} {xs ys : List V} (hp : H p = some (.lst xs)) : TkN A p H a y → TkN A p (upd H p (.lst ys)) a y := fun ⟨dx, na, h1, h2, h3⟩ => ⟨dx, na, by
  rw [upd_ne (ne_of h1 hp (fun z => nomatch z))]
  exact h1, by rw [upd_ne h3]; exact h2, h3⟩
theorem TkN.at {A : Ads} {p : Addr} {H : Hp} {a : Addr} {y : Cm.Tk} : TkN A p H a y → TkAt A H a y := fun ⟨dx, na, h1, h2, _⟩ => ⟨dx, na, h1, h2⟩
theorem Paired.snoc {α β : Type} {F : α → β → Prop} {a : α} {b : β} (h : F a b) : ∀ {l : List α} {m : List β}, Paired F l m → Paired F (l ++ [a]) (m ++ [b])
  | _, _, .nil => .cons h .nil
  | _, _, .cons q t => .cons q (Paired.snoc h t)
structure WTok (A : Ads) (t : List Nat) (a p : Addr) (H : Hp) (m : Nat) (σ : L2.St) (H' : Hp) (i : Nat) (as : List Addr) (ks : List Cm.Tk) : Prop where
  sm : Same H H'
  hm : m = t.length - i
  hi : i ≤ t.length
  hs : σ = [some (.ref a), some (.ref p), some (.int i)]
  hp : H' p = some (RL as)
  pd : Paired (TkN A p H') as ks
  al : as.length ≤ i
  tr : ∀ r, Cm.TR t.length (Cm.TZ i (t.drop i)) r → Cm.TR t.length (Cm.TZ 0 t) (ks ++ r)
def WTokE (A : Ads) (t : List Nat) (a p : Addr) (H : Hp) (m : Nat) (σ : L2.St) (H' : Hp) : Prop := ∃ i as ks, WTok A t a p H m σ H' i as ks
theorem fn_tokens_of (T : Txt K mg A) : FnAt P w K mg base CX0 4 "tokens_of" ["text"] (sp_tokens A) := by
  refine T.d_tokens_of.fn sc_tokens_of (fun vs H Q E h => by obtain ⟨_, _, rfl, _⟩ := h; rfl) (fun f cdv Ar outer s H vs Q E hr h => ⟨_, (pss_cons (ps_set (i := 1) sc_tokens_of.nd rfl (.inl rfl) (pe_lst pa_nil)) (pss_cons (ps_set (i := 2) sc_tokens_of.nd rfl (.inl rfl) pe_int) (pss_cons (ps_while PassesOwn.never (pt_cmpR op_lt (pv 2) (pe_callB len_I (by rfl) T.b_len (by decide +kernel) (pa_cons (pv 0) pa_nil)) (nomark _)) (pss_one (ps_if (pt_cmpR (op_inK (ns := [10, 32]) T.k_SPACES) (pe_ix ix_I (pv 0) (pv 2) (fun _ _ => rfl)) (pe_kt T.k_SPACES) (by rfl)) (pss_one (ps_aug (i := 2) sc_tokens_of.nd rfl (.inl rfl) pe_int ip_add)) (pss_cons (ps_expr (pe_lm PySem.F.plainAttrs_list PySem.F.slot_list_append PySem.F.type_list_append app_R (pv 1) (pa_cons (pe_fn (fn_token_at T) (hr.mono (by decide)) pass0 (pa_cons (pv 0) (pa_cons (pv 2) pa_nil))) pa_nil))) (pss_one (ps_aug (i := 2) sc_tokens_of.nd rfl (.inl rfl) (pe_callB len_I (by rfl) T.b_len (by decide +kernel) (pa_cons (pe_fldT T.c_Token.cl T.n_Token_signs (pe_ix ix_RL (pv 1) (pe_un un_neg pe_int) (fun _ _ => rfl)) rfl) pa_nil)) ip_add)))))) (pss_cons (ps_expr (pe_lm PySem.F.plainAttrs_list PySem.F.slot_list_append PySem.F.type_list_append app_R (pv 1) (pa_cons (pe_mk1 (mk_Token T) (hr.mono (by decide)) (pa_cons (pe_ki T.k_END) (pa_cons (pe_callB len_I (by rfl) T.b_len (by decide +kernel) (pa_cons (pv 0) pa_nil)) (pa_cons (pe_lst pa_nil) pa_nil)))) pa_nil))) (pss_one (ps_ret (pv 1))))))), ?_⟩)
  obtain ⟨a, t, rfl, ha, hl, q⟩ := h
  walk_at "rd"
  refine ⟨Nat.zero_le _, fun p hp => ?_⟩
  refine while_m (WTokE A t a p H) t.length ⟨0, [], [], Same.new hp, rfl, Nat.zero_le _, rfl, upd_same, .nil, Nat.le_refl _, fun r h => h⟩ ?_
  rintro m σ H1 ⟨i, as, ks, s1, rfl, hi, rfl, hpl, hpd, hal, htr⟩
  have ha1 := s1 _ _ ha
  walk_at "rd"
  rw [nI_len]
  split
  · rename_i h3
    have hi2 : i < t.length := by omega
    obtain ⟨c, r, hd⟩ : ∃ c r, t.drop i = c :: r := ⟨_, _, (List.getElem_cons_drop hi2).symm⟩
    have hg : t.getD i 0 = c := by
      have : (t.drop i)[0]? = some c := by rw [hd]; rfl
      rw [List.getElem?_drop] at this
      rw [List.getD_eq_getElem?_getD]
      simp at this
      simp [this]
    have hgI : (nI t).getD ((i : Int)).toNat 0 = ((c : Nat) : Int) := by
      rw [Int.toNat_natCast, nI_getD, hg]
    have hdr : t.drop (i + 1) = r := by
      rw [← List.drop_drop, hd]
      rfl
    rw [hgI]
    refine ⟨_, fun _ _ h => h, by omega, by omega, ?_⟩
    by_cases hsp : (c : Int) = 10 ∨ (c : Int) = 32
    · have hm : (c : Int) ∈ [(10 : Int), 32] := by simpa using hsp
      rw [if_pos hm]
      refine ⟨t.length - (i + 1), by omega, i + 1, as, ks, s1, rfl, by omega, rfl, hpl, hpd, by omega, fun r' h' => htr r' ?_⟩
      rw [hd, Cm.tz_sp (by omega), ← hdr]
      exact h'
    · have hm : ¬ (c : Int) ∈ [(10 : Int), 32] := by simpa using hsp
      rw [if_neg hm]
      refine ⟨a, t, i, rfl, ha1, hi2, hl, fun H2 b s2 hb hn => ?_⟩
      have hpl2 := s2 _ _ hpl
      have hpos := Cm.tk_pos (i := i) (c := c) (t := r)
      have hle := Cm.tk_le (i := i) (t := c :: r)
      have hlc : (c :: r).length = t.length - i := by rw [← hd, List.length_drop]
      rw [hd] at hb
      obtain ⟨dx, sa, b1, b2⟩ := hb
      have hsa : sa ≠ p := by
        intro e
        rw [e, hpl2] at b2
        exact il_rl (by rw [nI_len]; exact hpos) (Option.some.inj b2).symm
      have hN : TkN A p H2 b (Cm.tkAt i (c :: r)) := ⟨dx, sa, b1, b2, hsa⟩
      obtain ⟨dx', sa', b1', b2', _⟩ := id (TkN.upd (ys := (as ++ [b]).map V.ref) hpl2 hN)
      refine ⟨as, b, rfl, hpl2, by rw [sizeLine_eq]; omega, ?_⟩
      refine ⟨as, b, rfl, dx', _, b1', _, rfl, sa', rfl, _, b2', ?_⟩
      rw [nI_len]
      refine ⟨t.length - (i + (Cm.tkAt i (c :: r)).signs.length), by omega, i + (Cm.tkAt i (c :: r)).signs.length, as ++ [b], ks ++ [Cm.tkAt i (c :: r)], ?_, rfl, by omega, by simp, upd_same, ?_, ?_, fun r' h' => ?_⟩
      · exact Same.mut (s1.trans s2) hp
      · exact Paired.snoc (TkN.upd hpl2 hN) (L2.Paired.mapP hpd fun _ _ z => TkN.upd hpl2 (z.mono s2))
      · rw [List.length_append]
        simp
        omega
      · rw [List.append_assoc]
        refine htr _ ?_
        rw [hd]
        refine Cm.tr_step (by omega) ?_
        rw [← hd, List.drop_drop]
        rw [← hd] at h'
        exact h'
  · have e : i = t.length := by omega
    subst e
    refine ⟨Nat.zero_le _, fun s hs x dx hx hdx hne => ?_⟩
    have s2 : Same H1 (upd H1 s (.lst [])) := Same.new hs
    have hsp : s ≠ p := fun e => by rw [e, hpl] at hs; cases hs
    have s3 := Same.mk hx hdx (o := .own x) (u := .ins A.tok dx []) (w := .ins A.tok dx (tokF 5 t.length s))
    refine ⟨x, dx, 5, t.length, s, rfl, upd_same, rfl, ?_⟩
    have s4 := s2.trans s3
    have hp4 := s4 _ _ hpl
    have hN : TkN A p (upd (upd (upd (upd H1 s (.lst [])) dx (.own x)) x (.ins A.tok dx [])) x (.ins A.tok dx (tokF 5 t.length s))) x ⟨5, t.length, []⟩ := ⟨dx, s, upd_same, s3 _ _ upd_same, hsp⟩
    refine ⟨as, hp4, by rw [sizeLine_eq]; omega, ?_⟩
    refine q _ p (as ++ [x]) (ks ++ [⟨5, t.length, []⟩]) (Same.mut (s1.trans s4) hp) upd_same ?_ (htr _ ?_)
    · exact L2.Paired.mapP (Paired.snoc (TkN.upd hp4 hN) (L2.Paired.mapP hpd fun _ _ z => TkN.upd hp4 (z.mono s4))) fun _ _ z => z.at
    · rw [List.drop_length, Cm.tz_nil]
      exact .fin
end
end Cl
set_option Elab.async false
set_option linter.all false
set_option maxRecDepth 100000
set_option maxHeartbeats 4000000
namespace Cl
open PySem PySem.Spec PyProof.Rows L2
local macro_rules | `(tactic| walk_at "rd") => `(tactic| try simp only [tSeq, tAsg, tVar, tC, tOp, tTest, tIfS, tNext, tRet, tDrop, gName, rI0, rI, rU, tUn, rEq_int, rNe_int, tFn, tFnS, tCons, tNil, tChain, tAndV, tOrV, tNotV, tAnd, tOr, tNot, tB, tIf, L2.start, tFor_eq, tLc_eq, iIL, iRL, iRng1, iRng2, iRng3, iEnR, iEnI, iZpR, iZpI, iStr, iTup, rIxI, rIxR, rIxRL, rIxK, rSlI, tSl, tNoPart, tPart, rInI, rNotInI, rInK, rInT, rInF, rInL, rLenI, rLenR, rLenA, rListI, rSortI', rAllB, rEqI, rNeI, rCatI, rCatS, tLM, rAppI, rAppR, rExtI, rIdxI, tLstI, tLstS, tFldT, sFldT, gUnI, gUnR, gTupT, gCons, gNil, sAugT, tTup, tLst, tCB, tAug, ipI, tPar, tM1, tMth, tMk, tRz, tRangeL, tYes, allInts, tupInts, allStrs, tupStrs, L2.rIsN, tIsN, rgV,
  List.map_cons, List.map_nil, List.length_cons, List.length_nil, Nat.zero_add, Nat.reduceAdd, Nat.reduceSub, Nat.reduceLeDiff, Nat.sub_zero, List.replicate_succ, List.replicate_zero, List.cons_append, List.nil_append, List.append_nil, List.set_cons_zero, List.set_cons_succ, List.getElem?_cons_zero, List.getElem?_cons_succ, Option.some.injEq, exists_and_left, exists_and_right, exists_eq_left', exists_eq_left, ex_il, ex_rl, ex_sl, lk_tok1, lk_tok2, lk_tok3, lk_tok4, lk_rdr1, lk_rdr2, lk_rdr3, lk_rdr4, lk_rdr5, lk_ply1, lk_ply2, lk_tbl1, lk_tbl2, lk_tbl3, lk_cal1, lk_cal2, lk_cal3, lk_dsk1, lk_dsk2, lk_dsk3, pt_rdr2, pt_dsk2, len_rdr, len_dsk, Nat.reduceLT, HO.lst.injEq, Int.zero_add, exists_eq, exists_eq', V.int.injEq, V.ref.injEq, V.bl.injEq, V.str.injEq, List.cons.injEq, HO.ins.injEq, HO.tup.injEq, il_inj, rl_inj, sl_inj, bl_inj, and_assoc, true_and, and_true, decide_eq_true_eq, Bool.not_eq_true', decide_eq_false_iff_not, reduceCtorEq, upd_same, upd_old, Option.isSome_some, Option.isSome_none, ite_true, ite_false, wipe, *])
local macro_rules | `(tactic| walk_at "r0") => `(tactic| try simp only [tSeq, tAsg, tVar, tC, tOp, tTest, tIfS, tNext, tRet, tDrop, gName, rI0, rI, rU, tUn, rEq_int, rNe_int, tFn, tFnS, tCons, tNil, tChain, tAndV, tOrV, tNotV, tAnd, tOr, tNot, tB, tIf, L2.start, tFor_eq, tLc_eq, iIL, iRL, iRng1, iRng2, iRng3, iEnR, iEnI, iZpR, iZpI, iStr, iTup, rIxI, rIxR, rIxRL, rIxK, rSlI, tSl, tNoPart, tPart, rInI, rNotInI, rInK, rInT, rInF, rInL, rLenI, rLenR, rLenA, rListI, rSortI', rAllB, rEqI, rNeI, rCatI, rCatS, tLM, rAppI, rAppR, rExtI, rIdxI, tLstI, tLstS, tFldT, sFldT, gUnI, gUnR, gTupT, gCons, gNil, sAugT, tTup, tLst, tCB, tAug, ipI, tPar, tM1, tMth, tMk, tRz, tRangeL, tYes, allInts, tupInts, allStrs, tupStrs, L2.rIsN, tIsN, rgV,
  List.map_cons, List.map_nil, List.length_cons, List.length_nil, Nat.zero_add, Nat.reduceAdd, Nat.reduceSub, Nat.reduceLeDiff, Nat.sub_zero, List.replicate_succ, List.replicate_zero, List.cons_append, List.nil_append, List.append_nil, List.set_cons_zero, List.set_cons_succ, List.getElem?_cons_zero, List.getElem?_cons_succ, Option.some.injEq, exists_and_left, exists_and_right, exists_eq_left', exists_eq_left, ex_il, ex_rl, ex_sl, lk_tok1, lk_tok2, lk_tok3, lk_tok4, lk_rdr1, lk_rdr2, lk_rdr3, lk_rdr4, lk_rdr5, lk_ply1, lk_ply2, lk_tbl1, lk_tbl2, lk_tbl3, lk_cal1, lk_cal2, lk_cal3, lk_dsk1, lk_dsk2, lk_dsk3, pt_rdr2, pt_dsk2, len_rdr, len_dsk, Nat.reduceLT, HO.lst.injEq, Int.zero_add, exists_eq, exists_eq', V.int.injEq, V.ref.injEq, V.bl.injEq, V.str.injEq, List.cons.injEq, HO.ins.injEq, HO.tup.injEq, il_inj, rl_inj, sl_inj, bl_inj, and_assoc, true_and, and_true, decide_eq_true_eq, Bool.not_eq_true', decide_eq_false_iff_not, reduceCtorEq, upd_same, upd_old, Option.isSome_some, Option.isSome_none, ite_true, ite_false, wipe])
section
variable {P : Program} {w : World} {K : PySem.W.Frag} {mg : Str → Option Value} {base : Heap} {A : Ads}
/-! ### the reader -/
/-- everything but r is as before -/
def But (r : Addr) (H H' : Hp) : Prop := ∀ a o, a ≠ r → H a = some o → H' a = some o
theorem But.of {r : Addr} {H H' : Hp} (s : Same H H') : But r H H' := fun a o _ h => s a o h
theorem But.trans {r : Addr} {H H' H2 : Hp} (s : But r H H') (u : But r H' H2) : But r H H2 := fun a o n h => u a o n (s a o n h)
theorem But.step {r : Addr} {H : Hp} {o : HO} : But r H (upd H r o) := fun a u n h => by rw [upd_ne n]; exact h
theorem But.mut {r p : Addr} {H H' : Hp} {o : HO} (s : But r H H') (h : H p = none) : But r H (upd H' p o) := fun a u n q => by
  rw [upd_ne (ne_of_none q h)]
  exact s a u n q
def SpoB (r : Addr) (A : Ads) (code off : Int) (H : Hp) (E : XK) : Prop := ∀ d H', But r H H' → H' d = some (.xd (fsS [.int code, .int off])) → E (.ref A.spo) (some d) H'
theorem SpoB.mono {r : Addr} {A : Ads} {c o : Int} {H H' : Hp} {E : XK} (h : SpoB r A c o H E) (s : But r H H') : SpoB r A c o H' E := fun d H2 s2 e => h d H2 (s.trans s2) e
theorem SpoB.spo {r : Addr} {A : Ads} {c o : Int} {H : Hp} {E : XK} (h : SpoB r A c o H E) : SpoE A c o H E := fun d H2 s2 e => h d H2 (But.of s2) e
/-- a reader, made in G, that has l still to be read -/
def RdT (A : Ads) (G : Hp) (r : Addr) (len : Nat) (l : Vbndal.Tokens) (H : Hp) : Prop := ∃ dx ta as ks, ∃ n : Nat, G r = some (.ins A.rdr dx (rdrF ta 0)) ∧ G ta = some (RL as) ∧ Paired (TkAt A G) as ks ∧ Cm.TR len l (ks.drop n) ∧ But r G H ∧ H r = some (.ins A.rdr dx (rdrF ta n))
theorem rdr_ne {C dx : Addr} {fs : List (Str × V)} {t : Addr} {n : Int} {x : HO} (h : ∀ dx t n, x ≠ .ins C dx (rdrF t n)) : x ≠ .ins C dx (rdrF t n) := h _ _ _
section
variable {G H H' : Hp} {r : Addr} {len : Nat} {l : Vbndal.Tokens}
theorem RdT.but (h : RdT A G r len l H) : But r G H := by
  obtain ⟨dx, ta, as, ks, n, h1, h2, h3, h4, h5, h6⟩ := h
  exact h5
theorem RdT.mono (s : Same H H') (h : RdT A G r len l H) : RdT A G r len l H' := by
  obtain ⟨dx, ta, as, ks, n, h1, h2, h3, h4, h5, h6⟩ := h
  exact ⟨dx, ta, as, ks, n, h1, h2, h3, h4, h5.trans (But.of s), s _ _ h6⟩
theorem RdT.ne (h : RdT A G r len l H) {a : Addr} {o : HO} (ha : H a = some o) (ho : ∀ dx t n, o ≠ .ins A.rdr dx (rdrF t n)) : a ≠ r := by
  obtain ⟨dx, ta, as, ks, n, h1, h2, h3, h4, h5, h6⟩ := h
  exact ne_of ha h6 (ho _ _ _)
theorem RdT.neG (h : RdT A G r len l H) {a : Addr} {o : HO} (ha : G a = some o) (ho : ∀ dx t n, o ≠ .ins A.rdr dx (rdrF t n)) : a ≠ r := by
  obtain ⟨dx, ta, as, ks, n, h1, h2, h3, h4, h5, h6⟩ := h
  exact ne_of ha h1 (ho _ _ _)
theorem RdT.none (h : RdT A G r len l H) {p : Addr} (hp : H p = .none) : G p = .none := by
  obtain ⟨dx, ta, as, ks, n, h1, h2, h3, h4, h5, h6⟩ := h
  cases e : G p with
  | none => rfl
  | some o =>
    have : p ≠ r := fun z => by
      rw [z, h6] at hp
      cases hp
    rw [h5 _ _ this e] at hp
    cases hp
/-- what isn't a reader stays -/
theorem RdT.at (h : RdT A G r len l H) (s : But r H H') {a : Addr} {o : HO} (ha : H a = some o) (ho : ∀ dx t n, o ≠ .ins A.rdr dx (rdrF t n)) : H' a = some o := s _ _ (h.ne ha ho) ha
theorem RdT.il (h : RdT A G r len l H) (s : But r H H') {a : Addr} {ns : List Int} (ha : H a = some (IL ns)) : H' a = some (IL ns) := h.at s ha fun _ _ _ z => nomatch z
theorem RdT.rl (h : RdT A G r len l H) (s : But r H H') {a : Addr} {ns : List Addr} (ha : H a = some (RL ns)) : H' a = some (RL ns) := h.at s ha fun _ _ _ z => nomatch z
theorem RdT.ilG (h : RdT A G r len l H) {a : Addr} {ns : List Int} (ha : G a = some (IL ns)) : H a = some (IL ns) := h.but _ _ (h.neG ha fun _ _ _ z => nomatch z) ha
theorem tok_rdr {C C' dx dx' s t : Addr} {k o n : Int} : HO.ins C dx (tokF k o s) ≠ .ins C' dx' (rdrF t n) := fun z => by
  injection z with _ _ z
  unfold tokF rdrF at z
  injection z with z _
  injection z with z _
  exact absurd z (by decide)
theorem ply_rdr {C C' dx dx' s t : Addr} {k n : Int} : HO.ins C dx (plyF s k) ≠ .ins C' dx' (rdrF t n) := fun z => by
  injection z with _ _ z
  unfold plyF rdrF at z
  injection z with z _
  injection z with z _
  exact absurd z (by decide)
theorem RdT.tk (h : RdT A G r len l H) {b : Addr} {k : Cm.Tk} (hb : TkAt A G b k) : TkAt A H b k := by
  obtain ⟨dx, sa, h1, h2⟩ := hb
  exact ⟨dx, sa, h.but _ _ (h.neG h1 fun _ _ _ => tok_rdr) h1, h.ilG h2⟩
/-- lists that were made behind G may change -/
theorem RdT.upd (h : RdT A G r len l H) {p : Addr} {o : HO} {u : List V} (hp : G p = .none) (hl : H p = some (.lst u)) : RdT A G r len l (upd H p o) := by
  have hn := h.ne hl fun _ _ _ z => nomatch z
  obtain ⟨dx, ta, as, ks, n, h1, h2, h3, h4, h5, h6⟩ := h
  exact ⟨dx, ta, as, ks, n, h1, h2, h3, h4, h5.mut hp, by rw [upd_ne (Ne.symm hn)]; exact h6⟩
theorem paired_get {α β : Type} {F : α → β → Prop} : ∀ {a : List α} {b : List β}, Paired F a b → ∀ {i : Nat} {x : α} {y : β}, a[i]? = some x → b[i]? = some y → F x y
  | _, _, .nil, i, x, y, h, _ => by simp at h
  | _, _, .cons q t, 0, x, y, h, h' => by
    cases h
    cases h'
    exact q
  | _, _, .cons q t, i + 1, x, y, h, h' => paired_get t (i := i) (by simpa using h) (by simpa using h')
theorem RdT.head (h : RdT A G r len l H) : ∃ dx ta as b k, ∃ n : Nat, H r = some (.ins A.rdr dx (rdrF ta n)) ∧ H ta = some (RL as) ∧ n < as.length ∧ as.getD ((n : Nat) : Int).toNat 0 = b ∧ TkAt A G b k ∧ TkAt A H b k ∧ k.kind = Cm.kindL l ∧ k.off = Vbndal.currentOffset len l ∧
    ∀ i t l', l = (i, t) :: l' → Cm.kindOf t ≠ 4 → k = ⟨Cm.kindOf t, i, k.signs⟩ ∧ Cm.SgOk t k.signs ∧ RdT A G r len l' (L2.upd H r (.ins A.rdr dx (rdrF ta (n + 1 : Nat)))) := by
  have h0 := h
  obtain ⟨dx, ta, as, ks, n, h1, h2, h3, h4, h5, h6⟩ := h
  obtain ⟨k, s, e1, e2, e3⟩ := Cm.tr_head h4
  have hk : ks[n]? = some k := by
    have : (ks.drop n)[0]? = some k := by
      rw [e1]
      rfl
    rw [List.getElem?_drop] at this
    exact this
  obtain ⟨b, hb, hT⟩ : ∃ b, as[n]? = some b ∧ TkAt A G b k := by
    have hlen := paired_len h3
    have hn : n < as.length := by
      rw [hlen]
      exact (List.getElem?_eq_some_iff.mp hk).1
    refine ⟨as[n], List.getElem?_eq_getElem hn, ?_⟩
    exact paired_get h3 (List.getElem?_eq_getElem hn) hk
  have hn : n < as.length := (List.getElem?_eq_some_iff.mp hb).1
  refine ⟨dx, ta, as, b, k, n, h6, h5 _ _ (ne_of h2 h1 (fun z => nomatch z)) h2, hn, by rw [Int.toNat_natCast, List.getD_eq_getElem?_getD, hb]; rfl, hT, h0.tk hT, e2, e3, ?_⟩
  intro i t l' el ht
  have hd : ks.drop (n + 1) = s := by
    rw [← List.drop_drop, e1]
    rfl
  rw [e1, el] at h4
  cases h4 with
  | bad => exact absurd rfl ht
  | tok hi sg q =>
    exact ⟨rfl, sg, dx, ta, as, ks, n + 1, h1, h2, h3, by rw [hd]; exact q, h5.trans But.step, upd_same⟩
end
theorem RdT.obj {G H : Hp} {r : Addr} {len : Nat} {l : Vbndal.Tokens} (h : RdT A G r len l H) : ∃ dx ta, ∃ n : Nat, H r = some (.ins A.rdr dx (rdrF ta n)) := by
  obtain ⟨dx, ta, as, ks, n, h1, h2, h3, h4, h5, h6⟩ := h
  exact ⟨dx, ta, n, h6⟩
def sp_rdr (A : Ads) : Sp := fun vs H Q _ => ∃ (x dx : Addr) (t : Addr), vs = [.ref x, .ref t] ∧ H x = some (.ins A.rdr dx []) ∧ Q .non (upd H x (.ins A.rdr dx (rdrF t 0)))
theorem mk_Reader (T : Txt K mg A) : MkAt P w K mg base 1 "Reader" A.rdr ["self", "tokens"] (sp_rdr A) := by
  refine T.c_Reader.mk_ sc_Reader___init__ (fun vs H Q E h => by obtain ⟨_, _, _, rfl, _⟩ := h; rfl) (fun f cdv Ar outer s H vs Q E hr h => ⟨_, (pss_cons (ps_fldT T.c_Reader.cl T.n_Reader_tokens (pv 0) (pv 1) rfl) (pss_one (ps_fldT T.c_Reader.cl T.n_Reader_read (pv 0) pe_int rfl))), ?_⟩)
  obtain ⟨x, dx, t, rfl, hx, q⟩ := h
  walk_at "rd"
  rw [upd_upd, pt_rdr]
  exact ⟨(by show 1 < 1000; decide), q⟩
def sp_kind (A : Ads) : Sp := fun vs H Q _ => ∃ (G : Hp) (r : Addr) (len : Nat) (l : Vbndal.Tokens), vs = [.ref r] ∧ RdT A G r len l H ∧ Q (.int (Cm.kindL l : Nat)) H
theorem fn_Reader_next_kind (T : Txt K mg A) : MthAt P w K mg base CX0 1 A.rdr "next_kind" ["self"] (sp_kind A) := by
  refine T.m_Reader_next_kind.fn sc_Reader_next_kind (fun vs H Q E h => by obtain ⟨_, _, _, _, rfl, _⟩ := h; rfl) (fun f cdv Ar outer s H vs Q E hr h => ⟨_, (pss_one (ps_ret (pe_fldT T.c_Token.cl T.n_Token_kind (pe_ix ix_R (pe_fldT T.c_Reader.cl T.n_Reader_tokens (pv 0) rfl) (pe_fldT T.c_Reader.cl T.n_Reader_read (pv 0) rfl) (fun _ _ => rfl)) rfl))), ?_⟩)
  obtain ⟨G, r, len, l, rfl, hR, q⟩ := h
  obtain ⟨dx, ta, as, b, k, n, h1, h2, h3, h4, hbG, ⟨dx2, sa, hb1, hb2⟩, h6, h7, h8⟩ := hR.head
  walk_at "rd"
  omega
def sp_take (A : Ads) : Sp := fun vs H Q E => ∃ (G : Hp) (r : Addr) (len : Nat) (l : Vbndal.Tokens) (k : Nat), vs = [.ref r, .int k] ∧ RdT A G r len l H ∧ k ≤ 3 ∧
  (∀ i t l' sg b H', l = (i, t) :: l' → Cm.kindOf t = k → Cm.SgOk t sg → TkAt A G b ⟨k, i, sg⟩ → But r H H' → RdT A G r len l' H' → Q (.ref b) H') ∧ (Cm.kindL l ≠ k → SpoB r A 1 (Vbndal.currentOffset len l : Nat) H E)
theorem fn_Reader_take (T : Txt K mg A) : MthAt P w K mg base (L2.CX P w) 3 A.rdr "take" ["self", "kind"] (sp_take A) := by
  refine T.m_Reader_take.fnX sc_Reader_take (fun vs H Q E h => by obtain ⟨_, _, _, _, _, rfl, _⟩ := h; rfl) (fun f cdv Ar outer s H vs Q E hr h => ⟨_, (pss_cons (ps_set (i := 2) sc_Reader_take.nd rfl (.inl rfl) (pe_ix ix_R (pe_fldT T.c_Reader.cl T.n_Reader_tokens (pv 0) rfl) (pe_fldT T.c_Reader.cl T.n_Reader_read (pv 0) rfl) (fun _ _ => rfl))) (pss_cons (ps_if (pt_cmpR op_ne (pe_fldT T.c_Token.cl T.n_Token_kind (pv 2) rfl) (pv 1) (nomark _)) (pss_one (ps_rz (err_Spoilt T) rfl (takes_of rfl rfl rfl rfl) (hr.mono (by decide)) (pa_cons (pe_ki T.k_NOT_ALLOWED) (pa_cons (pe_fldT T.c_Token.cl T.n_Token_offset (pv 2) rfl) pa_nil)))) pss_nil) (pss_cons (ps_augT T.c_Reader.cl T.n_Reader_read (pv 0) pe_int) (pss_one (ps_ret (pv 2)))))), ?_⟩)
  obtain ⟨G, r, len, l, k, rfl, hR, hk, q, qe⟩ := h
  obtain ⟨dx, ta, as, b, c, n, h1, h2, h3, h4, hbG, ⟨dx2, sa, hb1, hb2⟩, h6, h7, h8⟩ := hR.head
  walk_at "rd"
  refine ⟨by omega, by omega, ?_⟩
  split
  · exact spo_end (qe (by omega)).spo
  · rename_i hh
    have hkl : Cm.kindL l = k := by omega
    match l, hkl with
    | [], hkl => exact absurd hkl (by show ¬ 5 = k; omega)
    | (i, t) :: l', hkl =>
      have hkt : Cm.kindOf t = k := hkl
      obtain ⟨g1, g2, g3⟩ := h8 i t l' rfl (by omega)
      rw [g1, hkt] at hbG
      exact q i t l' c.signs b _ rfl hkt g2 hbG But.step g3
def WdR (A : Ads) (G : Hp) (r : Addr) (len : Nat) (res : Except Vbndal.ParseError Vbndal.Tokens) (H : Hp) (Q : VK) (E : XK) : Prop :=
  (∀ l' H', res = .ok l' → But r H H' → RdT A G r len l' H' → Q .non H') ∧ (∀ e, res = .error e → SpoB r A (e.code : Nat) (e.offset : Nat) H E)
theorem kof1 {t : Vbndal.Token} (h : Cm.kindOf t = 1) : ∃ w, t = .word w := by
  cases t with
  | word w => exact ⟨w, rfl⟩
  | _ => cases h
theorem kof2 {t : Vbndal.Token} (h : Cm.kindOf t = 2) : ∃ w, t = .number w := by
  cases t with
  | number w => exact ⟨w, rfl⟩
  | _ => cases h
theorem kof3 {t : Vbndal.Token} (h : Cm.kindOf t = 3) : t = .semicolon := by
  cases t with
  | semicolon => rfl
  | _ => cases h
def sp_takeword (A : Ads) : Sp := fun vs H Q E => ∃ (G : Hp) (r : Addr) (len : Nat) (l : Vbndal.Tokens) (s : Addr) (x : String), vs = [.ref r, .ref s] ∧ RdT A G r len l H ∧ H s = some (IL (nI (Vbndal.toBytes x))) ∧ WdR A G r len (Vbndal.expectWord len x l) H Q E
theorem fn_Reader_take_word (T : Txt K mg A) : MthAt P w K mg base (L2.CX P w) 4 A.rdr "take_word" ["self", "signs"] (sp_takeword A) := by
  refine T.m_Reader_take_word.fnX sc_Reader_take_word (fun vs H Q E h => by obtain ⟨_, _, _, _, _, _, rfl, _⟩ := h; rfl) (fun f cdv Ar outer s H vs Q E hr h => ⟨_, (pss_cons (ps_set (i := 2) sc_Reader_take_word.nd rfl (.inl rfl) (pe_mth T.c_Reader.cl (fn_Reader_take T) (hr.mono (by decide)) (passes_call (takes_of rfl rfl rfl rfl) (fun _ _ _ _ h => h)) (pv 0) (pa_cons (pe_ki T.k_WORD) pa_nil))) (pss_one (ps_if (pt_cmpR (op_neI hr.units) (pe_fldT T.c_Token.cl T.n_Token_signs (pv 2) rfl) (pv 1) (nomark _)) (pss_one (ps_rz (err_Spoilt T) rfl (takes_of rfl rfl rfl rfl) (hr.mono (by decide)) (pa_cons (pe_ki T.k_NOT_ALLOWED) (pa_cons (pe_fldT T.c_Token.cl T.n_Token_offset (pv 2) rfl) pa_nil)))) pss_nil))), ?_⟩)
  obtain ⟨G, r, len, l, s, x, rfl, hR, hs, q, qe⟩ := h
  obtain ⟨dr, ta, rn, hr0⟩ := hR.obj
  walk_at "rd"
  refine ⟨G, r, len, l, 1, rfl, hR, by decide, fun i t l' sg b H1 el ek hsg hb s1 hR1 => ?_, fun hk => qe _ (Cm.ex_noword hk)⟩
  obtain ⟨w, rfl⟩ := kof1 ek
  obtain ⟨rfl, _⟩ := hsg
  subst el
  obtain ⟨dx, sa, hb1, hb2⟩ := hR1.tk hb
  have hs1 := hR.il s1 hs
  rw [Cm.ex_word] at q qe
  walk_at "rd"
  split
  · rename_i hh
    rw [nI_inj] at hh
    exact spo_end ((qe _ (if_neg hh)).mono s1).spo
  · rename_i hh
    rw [nI_inj] at hh
    exact q _ _ (if_pos (Classical.not_not.mp hh)) s1 hR1
theorem str_S (x : String) : Str.ofString x = SX.S (Vbndal.toBytes x) := Str.ofString_eq_toList x
def sp_signs : Sp := fun vs H Q _ => ∃ (cs : List Nat), vs = [.str (SX.S cs)] ∧ cs.length ≤ 100000 ∧ ∀ H' b, Same H H' → H' b = some (IL (nI cs)) → H b = none → Q (.ref b) H'
theorem fn_signs_of (T : Txt K mg A) : FnAt P w K mg base CX0 1 "signs_of" ["text"] sp_signs := by
  refine T.d_signs_of.fn sc_signs_of (fun vs H Q E h => by obtain ⟨_, rfl, _⟩ := h; rfl) (fun f cdv Ar outer s H vs Q E hr h => ⟨_, (pss_one (ps_ret (pe_lc (own := [("letter", 1)]) (g := gName 1) (tt := tYes) rfl sc_signs_of.nd (pi_str (pv 0)) (blkOk_by (N := ["text", "letter"]) (sc := defScope s_signs_of) (by decide +kernel)) (fun _ _ _ _ _ => (pg_name (i := 1) sc_signs_of.nd rfl (Or.inl rfl))) (fun _ _ _ _ _ => pts_nil) (fun _ _ _ _ _ => (pe_callB call_ord (by rfl) T.b_ord (by decide +kernel) (pa_cons (pv 1) pa_nil)))))), ?_⟩)
  obtain ⟨cs, rfl, hl, q⟩ := h
  walk_at "rd"
  intro D hD
  have hz : (SX.S cs).cps.size = cs.length := by simp [SX.S]
  refine lc_mp walk_str (fun i => (cs.getD i 0 : Nat)) hD (by rw [hz]; omega) (fun H1 s => trivial) (fun i x H1 H' C hi s1 y s2 c => ?_) (fun i H x H' y => by rw [y.1]; exact Same.refl _) fun H1 s1 e => ?_
  · obtain ⟨rfl, n, hn, rfl⟩ := y
    walk_at "r0"
    refine ⟨rfl, ?_⟩
    have := c H' (Same.refl _)
    have e : cs.getD i 0 = n := by
      have : cs[i]? = some n := by simpa [SX.S] using hn
      rw [List.getD_eq_getElem?_getD, this]
      rfl
    rw [e] at this
    exact this
  · refine q _ _ s1 ?_ hD
    rw [e, hz]
    have := range_map_get cs 0 (fun x => ((x : Nat) : Int))
    rw [this]
    rfl
def sp_rprime (A : Ads) : Sp := fun vs H Q E => ∃ (G : Hp) (r : Addr) (len : Nat) (l : Vbndal.Tokens), vs = [.ref r] ∧ RdT A G r len l H ∧
  (∀ i p l' H', Vbndal.parseNumber len Cm.okP l = .ok ((i, p), l') → p < 1000 → But r H H' → RdT A G r len l' H' → Q (.int (p : Nat)) H') ∧ (∀ e, Vbndal.parseNumber len Cm.okP l = .error e → SpoB r A (e.code : Nat) (e.offset : Nat) H E)
theorem fn_read_prime (T : Txt K mg A) : FnAt P w K mg base (L2.CX P w) 4 "read_prime" ["reader"] (sp_rprime A) := by
  refine T.d_read_prime.fnX sc_read_prime (fun vs H Q E h => by obtain ⟨_, _, _, _, rfl, _⟩ := h; rfl) (fun f cdv Ar outer s H vs Q E hr h => ⟨_, (pss_cons (ps_set (i := 1) sc_read_prime.nd rfl (.inl rfl) (pe_mth T.c_Reader.cl (fn_Reader_take T) (hr.mono (by decide)) (passes_call (takes_of rfl rfl rfl rfl) (fun _ _ _ _ h => h)) (pv 0) (pa_cons (pe_ki T.k_NUMBER) pa_nil))) (pss_cons (ps_if (pt_not (pt_val (pe_fn (fn_is_table_prime T) (hr.mono (by decide)) pass0 (pa_cons (pe_mth0 T.c_Token.cl (fn_Token_number T) (hr.mono (by decide)) pass0 (pv 1)) pa_nil)))) (pss_one (ps_rz (err_Spoilt T) rfl (takes_of rfl rfl rfl rfl) (hr.mono (by decide)) (pa_cons (pe_ki T.k_NOT_SUCH) (pa_cons (pe_fldT T.c_Token.cl T.n_Token_offset (pv 1) rfl) pa_nil)))) pss_nil) (pss_one (ps_ret (pe_mth0 T.c_Token.cl (fn_Token_number T) (hr.mono (by decide)) pass0 (pv 1)))))), ?_⟩)
  obtain ⟨G, r, len, l, rfl, hR, q, qe⟩ := h
  obtain ⟨dr, ta, rn, hr0⟩ := hR.obj
  walk_at "rd"
  refine ⟨G, r, len, l, 2, rfl, hR, by decide, fun i t l' sg b H1 el ek hsg hb s1 hR1 => ?_, fun hk => qe _ (Cm.pn_no hk)⟩
  obtain ⟨x, rfl⟩ := kof2 ek
  obtain ⟨hx, hd, hl3⟩ := hsg
  subst el
  have hx2 : x < 1000 := by rw [← hx]; exact Cm.dec_small hd hl3
  have hTk := hR1.tk hb
  obtain ⟨dx, sa, hb1, hb2⟩ := id hTk
  have er : Vbndal.parseNumber len Cm.okP ((i, .number x) :: l') = if Cm.okP x = true then .ok ((i, x), l') else .error ⟨4, i⟩ := rfl
  rw [er] at q qe
  clear er
  walk_at "rd"
  refine ⟨b, i, sg, rfl, hTk, hd, ?_⟩
  rw [hx]
  walk_at "rd"
  refine ⟨x, rfl, hx2, fun H2 s2 => ?_⟩
  have hb3 := s2 _ _ hb1
  have hTk2 := hTk.mono s2
  walk_at "rd"
  split
  · rename_i hh
    exact spo_end ((qe _ (if_neg (by rw [hh]; decide))).mono (s1.trans (But.of s2))).spo
  · rename_i hh
    refine ⟨b, i, sg, rfl, hTk2, hd, ?_⟩
    rw [hx]
    exact q i x l' H2 (if_pos (by simpa using hh)) hx2 (s1.trans (But.of s2)) (hR1.mono s2)
def sp_rcard (A : Ads) : Sp := fun vs H Q E => ∃ (G : Hp) (r : Addr) (len : Nat) (l : Vbndal.Tokens) (p : Nat) (d : Addr) (m : List Nat), vs = [.ref r, .int p, .ref d] ∧ RdT A G r len l H ∧ Cm.Pr p ∧ H d = some (IL (nI m)) ∧ m.length ≤ 10 ∧
  (∀ x l' H', Cm.cardStep len p m l = .ok (x, l') → But r H H' → RdT A G r len l' H' → Q (.int (x : Nat)) H') ∧ (∀ e, Cm.cardStep len p m l = .error e → SpoB r A (e.code : Nat) (e.offset : Nat) H E)
theorem fn_read_card (T : Txt K mg A) : FnAt P w K mg base (L2.CX P w) 4 "read_card" ["reader", "prime", "deck"] (sp_rcard A) := by
  refine T.d_read_card.fnX sc_read_card (fun vs H Q E h => by obtain ⟨_, _, _, _, _, _, _, rfl, _⟩ := h; rfl) (fun f cdv Ar outer s H vs Q E hr h => ⟨_, (pss_cons (ps_set (i := 3) sc_read_card.nd rfl (.inl rfl) (pe_mth T.c_Reader.cl (fn_Reader_take T) (hr.mono (by decide)) (passes_call (takes_of rfl rfl rfl rfl) (fun _ _ _ _ h => h)) (pv 0) (pa_cons (pe_ki T.k_NUMBER) pa_nil))) (pss_cons (ps_if (pt_not (pt_val (pe_fn (fn_is_card T) (hr.mono (by decide)) pass0 (pa_cons (pe_mth0 T.c_Token.cl (fn_Token_number T) (hr.mono (by decide)) pass0 (pv 3)) (pa_cons (pv 1) pa_nil))))) (pss_one (ps_rz (err_Spoilt T) rfl (takes_of rfl rfl rfl rfl) (hr.mono (by decide)) (pa_cons (pe_ki T.k_NOT_SUCH) (pa_cons (pe_fldT T.c_Token.cl T.n_Token_offset (pv 3) rfl) pa_nil)))) pss_nil) (pss_cons (ps_if (PW.pt (pw_or (pt_cmpR op_inI (pe_mth0 T.c_Token.cl (fn_Token_number T) (hr.mono (by decide)) pass0 (pv 3)) (pv 2) (by rfl)) (pw_or1 (pt_cmpR op_eq (pe_callB len_I (by rfl) T.b_len (by decide +kernel) (pa_cons (pv 2) pa_nil)) (pe_ki T.k_MOST_CARDS) (nomark _))))) (pss_one (ps_rz (err_Spoilt T) rfl (takes_of rfl rfl rfl rfl) (hr.mono (by decide)) (pa_cons (pe_ki T.k_TWICE) (pa_cons (pe_fldT T.c_Token.cl T.n_Token_offset (pv 3) rfl) pa_nil)))) pss_nil) (pss_one (ps_ret (pe_mth0 T.c_Token.cl (fn_Token_number T) (hr.mono (by decide)) pass0 (pv 3))))))), ?_⟩)
  obtain ⟨G, r, len, l, p, d, m, rfl, hR, hP, hd0, hm, q, qe⟩ := h
  obtain ⟨dr, ta, rn, hr0⟩ := hR.obj
  walk_at "rd"
  refine ⟨G, r, len, l, 2, rfl, hR, by decide, fun i t l' sg b H1 el ek hsg hb s1 hR1 => ?_, fun hk => qe _ (by unfold Cm.cardStep; rw [Cm.pn_no hk])⟩
  obtain ⟨x, rfl⟩ := kof2 ek
  obtain ⟨hx, hd, hl3⟩ := hsg
  subst el
  have hTk := hR1.tk hb
  have hd1 := hR.il s1 hd0
  obtain ⟨dx, sa, hb1, hb2⟩ := id hTk
  rw [Cm.card_num] at q qe
  walk_at "rd"
  refine ⟨b, i, sg, rfl, hTk, hd, ?_⟩
  rw [hx]
  walk_at "rd"
  refine ⟨x, p, rfl, hP, ?_⟩
  rw [isCa_card hP]
  walk_at "rd"
  split
  · rename_i hh
    exact spo_end ((qe _ (if_neg (by rw [hh]; decide))).mono s1).spo
  · rename_i hh
    have hh : Vbndal.isCard p x = true := by simpa using hh
    rw [if_pos hh] at q qe
    refine ⟨b, i, sg, rfl, hTk, hd, ?_⟩
    rw [hx]
    walk_at "rd"
    rw [nI_len]
    split
    · rename_i h1
      exact spo_end ((qe _ (if_pos (.inl (List.contains_iff_mem.mpr (nI_mem.mp h1))))).mono s1).spo
    · rename_i h1
      split
      · rename_i h2
        exact spo_end ((qe _ (if_pos (.inr (by show 10 ≤ m.length; omega)))).mono s1).spo
      · rename_i h2
        refine ⟨b, i, sg, rfl, hTk, hd, ?_⟩
        rw [hx]
        refine q x l' H1 (if_neg ?_) s1 hR1
        rintro (z | z)
        · exact h1 (nI_mem.mpr (List.contains_iff_mem.mp z))
        · have : 10 ≤ m.length := z
          omega
def sp_rkey (A : Ads) : Sp := fun vs H Q E => ∃ (G : Hp) (r : Addr) (len : Nat) (l : Vbndal.Tokens) (p : Nat), vs = [.ref r, .int p] ∧ RdT A G r len l H ∧ Cm.Pr p ∧
  (∀ i k l' H', Vbndal.parseNumber len (Vbndal.isKey p) l = .ok ((i, k), l') → But r H H' → RdT A G r len l' H' → Q (.int (k : Nat)) H') ∧ (∀ e, Vbndal.parseNumber len (Vbndal.isKey p) l = .error e → SpoB r A (e.code : Nat) (e.offset : Nat) H E)
theorem fn_read_key (T : Txt K mg A) : FnAt P w K mg base (L2.CX P w) 4 "read_key" ["reader", "prime"] (sp_rkey A) := by
  refine T.d_read_key.fnX sc_read_key (fun vs H Q E h => by obtain ⟨_, _, _, _, _, rfl, _⟩ := h; rfl) (fun f cdv Ar outer s H vs Q E hr h => ⟨_, (pss_cons (ps_set (i := 2) sc_read_key.nd rfl (.inl rfl) (pe_mth T.c_Reader.cl (fn_Reader_take T) (hr.mono (by decide)) (passes_call (takes_of rfl rfl rfl rfl) (fun _ _ _ _ h => h)) (pv 0) (pa_cons (pe_ki T.k_NUMBER) pa_nil))) (pss_cons (ps_if (pt_not (pt_val (pe_fn (fn_is_key T) (hr.mono (by decide)) pass0 (pa_cons (pe_mth0 T.c_Token.cl (fn_Token_number T) (hr.mono (by decide)) pass0 (pv 2)) (pa_cons (pv 1) pa_nil))))) (pss_one (ps_rz (err_Spoilt T) rfl (takes_of rfl rfl rfl rfl) (hr.mono (by decide)) (pa_cons (pe_ki T.k_NOT_SUCH) (pa_cons (pe_fldT T.c_Token.cl T.n_Token_offset (pv 2) rfl) pa_nil)))) pss_nil) (pss_one (ps_ret (pe_mth0 T.c_Token.cl (fn_Token_number T) (hr.mono (by decide)) pass0 (pv 2)))))), ?_⟩)
  obtain ⟨G, r, len, l, p, rfl, hR, hP, q, qe⟩ := h
  obtain ⟨dr, ta, rn, hr0⟩ := hR.obj
  walk_at "rd"
  refine ⟨G, r, len, l, 2, rfl, hR, by decide, fun i t l' sg b H1 el ek hsg hb s1 hR1 => ?_, fun hk => qe _ (Cm.pn_no hk)⟩
  obtain ⟨x, rfl⟩ := kof2 ek
  obtain ⟨hx, hd, hl3⟩ := hsg
  subst el
  have hTk := hR1.tk hb
  obtain ⟨dx, sa, hb1, hb2⟩ := id hTk
  have er : Vbndal.parseNumber len (Vbndal.isKey p) ((i, .number x) :: l') = if Vbndal.isKey p x = true then .ok ((i, x), l') else .error ⟨4, i⟩ := rfl
  rw [er] at q qe
  clear er
  walk_at "rd"
  refine ⟨b, i, sg, rfl, hTk, hd, ?_⟩
  rw [hx]
  walk_at "rd"
  refine ⟨x, p, rfl, hP, ?_⟩
  rw [isKe_key]
  walk_at "rd"
  split
  · rename_i hh
    exact spo_end ((qe _ (if_neg (by rw [hh]; decide))).mono s1).spo
  · rename_i hh
    refine ⟨b, i, sg, rfl, hTk, hd, ?_⟩
    rw [hx]
    exact q i x l' H1 (if_pos (by simpa using hh)) s1 hR1
def sp_rdeck (A : Ads) : Sp := fun vs H Q E => ∃ (G : Hp) (r : Addr) (len : Nat) (l : Vbndal.Tokens) (p : Nat), vs = [.ref r, .int p] ∧ RdT A G r len l H ∧ Cm.Pr p ∧
  (∀ m l' H' D, Cm.dk len p (l.length + 1) [] l = .ok (m, l') → But r H H' → RdT A G r len l' H' → H' D = some (IL (nI m)) → G D = none → H D = none → m.Nodup → (∀ x ∈ m, Cm.IsC p x) → 2 ≤ m.length → m.length ≤ 10 → Q (.ref D) H') ∧ (∀ e, Cm.dk len p (l.length + 1) [] l = .error e → SpoB r A (e.code : Nat) (e.offset : Nat) H E)
structure WDeck (A : Ads) (G : Hp) (r D : Addr) (len p : Nat) (l0 : Vbndal.Tokens) (H : Hp) (N : Nat) (σ : L2.St) (H' : Hp) (l : Vbndal.Tokens) (m : List Nat) (f : Nat) : Prop where
  bt : But r H H'
  rd : RdT A G r len l H'
  hs : σ = [some (.ref r), some (.int p), some (.ref D)]
  hN : N = l.length
  hf : l.length < f
  dk : Cm.dk len p (l0.length + 1) [] l0 = Cm.dk len p f m l
  hD : H' D = some (IL (nI m))
  nd : m.Nodup
  cs : ∀ x ∈ m, Cm.IsC p x
  ml : m.length ≤ 10
def WDeckE (A : Ads) (G : Hp) (r D : Addr) (len p : Nat) (l0 : Vbndal.Tokens) (H : Hp) (N : Nat) (σ : L2.St) (H' : Hp) : Prop := ∃ l m f, WDeck A G r D len p l0 H N σ H' l m f
theorem fn_read_deck (T : Txt K mg A) : FnAt P w K mg base (L2.CX P w) 5 "read_deck" ["reader", "prime"] (sp_rdeck A) := by
  refine T.d_read_deck.fnX sc_read_deck (fun vs H Q E h => by obtain ⟨_, _, _, _, _, rfl, _⟩ := h; rfl) (fun f cdv Ar outer s H vs Q E hr h => ⟨_, (pss_cons (ps_set (i := 2) sc_read_deck.nd rfl (.inl rfl) (pe_lst pa_nil)) (pss_cons (ps_while (passes_of rfl) (PW.pt (pw_or (pt_cmpR op_lt (pe_callB len_I (by rfl) T.b_len (by decide +kernel) (pa_cons (pv 2) pa_nil)) pe_int (nomark _)) (pw_or1 (pt_cmpR op_eq (pe_mth0 T.c_Reader.cl (fn_Reader_next_kind T) (hr.mono (by decide)) pass0 (pv 0)) (pe_ki T.k_NUMBER) (nomark _))))) (pss_one (ps_expr (pe_lm PySem.F.plainAttrs_list PySem.F.slot_list_append PySem.F.type_list_append app_I (pv 2) (pa_cons (pe_fn (fn_read_card T) (hr.mono (by decide)) (passes_call (takes_of rfl rfl rfl rfl) (fun _ _ _ _ h => h)) (pa_cons (pv 0) (pa_cons (pv 1) (pa_cons (pv 2) pa_nil)))) pa_nil))))) (pss_one (ps_ret (pv 2))))), ?_⟩)
  obtain ⟨G, r, len, l0, p, rfl, hR0, hP, q, qe⟩ := h
  walk_at "rd"
  refine ⟨Nat.zero_le _, fun D hD => ?_⟩
  have hGD := hR0.none hD
  refine while_m (WDeckE A G r D len p l0 H) l0.length ⟨l0, [], l0.length + 1, But.of (Same.new hD), hR0.mono (Same.new hD), rfl, rfl, Nat.lt_succ_self _, rfl, upd_same, .nil, (fun x h => nomatch h), by decide⟩ ?_
  rintro N σ H1 ⟨l, m, f, bt, hR, rfl, rfl, hf, hdk, hDm, hnd, hcs, hml⟩
  obtain ⟨dr, ta, rn, hr0⟩ := hR.obj
  match f, hf, hdk with
  | f + 1, hf, hdk =>
  have hdk0 := hdk
  have step : (m.length < 2 ∨ Cm.kindL l = 2) → sp_rcard A [V.ref r, V.int p, V.ref D] H1 (fun x H2 => ∃ x_1 x_2, x = V.int x_2 ∧ H2 D = some (IL x_1) ∧ x_1.length < sizeLine ∧ ∃ m', m' < List.length l ∧ WDeckE A G r D len p l0 H m' [some (V.ref r), some (V.int p), some (V.ref D)] (upd H2 D (IL (x_1 ++ [x_2])))) E := fun z => by
    refine ⟨G, r, len, l, p, D, m, rfl, hR, hP, hDm, hml, fun x l' H2 e s2 hR2 => ?_, fun e he => (qe e (by rw [hdk]; exact Cm.dk_err z he)).mono bt⟩
    obtain ⟨⟨i, el⟩, hc, hxm, hm10⟩ := Cm.card_ok e
    have hlen : l'.length < l.length := by rw [el]; exact Nat.lt_succ_self _
    have hD2 := hR.il s2 hDm
    refine ⟨_, _, rfl, hD2, by rw [nI_len, sizeLine_eq]; omega, l'.length, hlen, l', m ++ [x], f, (bt.trans s2).mut hD, hR2.upd hGD hD2, rfl, rfl, by omega, ?_, ?_, ?_, ?_, ?_⟩
    · rw [hdk, Cm.dk_ok z e]
    · rw [upd_same]
      unfold nI
      rw [List.map_append]
      rfl
    · rw [List.nodup_append]
      refine ⟨hnd, by simp, fun a ha b hb => ?_⟩
      rw [List.mem_singleton] at hb
      rw [hb]
      exact fun z => hxm (z ▸ ha)
    · intro y hy
      rcases List.mem_append.mp hy with hy | hy
      · exact hcs y hy
      · rw [List.mem_singleton.mp hy]
        exact (Cm.isC_iff hP).mp hc
    · rw [List.length_append]
      simp
      omega
  rw [hdk] at q qe
  clear hdk hdk0
  walk_at "rd"
  rw [nI_len]
  split
  · rename_i h2
    exact ⟨fun σ H2 => ∃ m', m' < List.length l ∧ WDeckE A G r D len p l0 H m' σ H2, fun _ _ h => h, step (.inl (by omega))⟩
  · rename_i h2
    refine ⟨G, r, len, l, rfl, hR, ?_⟩
    walk_at "r0"
    split
    · rename_i h3
      exact ⟨fun σ H2 => ∃ m', m' < List.length l ∧ WDeckE A G r D len p l0 H m' σ H2, fun _ _ h => h, ⟨_, hDm⟩, step (.inr (by omega))⟩
    · rename_i h3
      exact q m l H1 D (Cm.dk_stop (by omega)) bt hR hDm hGD hD hnd hcs (by omega) hml
end
end Cl
set_option Elab.async false
set_option linter.all false
set_option maxRecDepth 100000
set_option maxHeartbeats 4000000
namespace Cl
open PySem PySem.Spec PyProof.Rows L2
local macro_rules | `(tactic| walk_at "rd") => `(tactic| try simp only [tSeq, tAsg, tVar, tC, tOp, tTest, tIfS, tNext, tRet, tDrop, gName, rI0, rI, rU, tUn, rEq_int, rNe_int, tFn, tFnS, tCons, tNil, tChain, tAndV, tOrV, tNotV, tAnd, tOr, tNot, tB, tIf, L2.start, tFor_eq, tLc_eq, iIL, iRL, iRng1, iRng2, iRng3, iEnR, iEnI, iZpR, iZpI, iStr, iTup, rIxI, rIxR, rIxRL, rIxK, rSlI, tSl, tNoPart, tPart, rInI, rNotInI, rInK, rInT, rInF, rInL, rLenI, rLenR, rLenA, rListI, rSortI', rAllB, rEqI, rNeI, rCatI, rCatS, tLM, rAppI, rAppR, rExtI, rIdxI, tLstI, tLstS, tFldT, sFldT, gUnI, gUnR, gTupT, gCons, gNil, sAugT, tTup, tLst, tCB, tAug, ipI, tPar, tM1, tMth, tMk, tRz, tRangeL, tYes, allInts, tupInts, allStrs, tupStrs, L2.rIsN, tIsN, rgV,
  List.map_cons, List.map_nil, List.length_cons, List.length_nil, Nat.zero_add, Nat.reduceAdd, Nat.reduceSub, Nat.reduceLeDiff, Nat.sub_zero, List.replicate_succ, List.replicate_zero, List.cons_append, List.nil_append, List.append_nil, List.set_cons_zero, List.set_cons_succ, List.getElem?_cons_zero, List.getElem?_cons_succ, Option.some.injEq, exists_and_left, exists_and_right, exists_eq_left', exists_eq_left, ex_il, ex_rl, ex_sl, lk_tok1, lk_tok2, lk_tok3, lk_tok4, lk_rdr1, lk_rdr2, lk_rdr3, lk_rdr4, lk_rdr5, lk_ply1, lk_ply2, lk_tbl1, lk_tbl2, lk_tbl3, lk_cal1, lk_cal2, lk_cal3, lk_dsk1, lk_dsk2, lk_dsk3, pt_rdr2, pt_dsk2, len_rdr, len_dsk, Nat.reduceLT, HO.lst.injEq, Int.zero_add, exists_eq, exists_eq', V.int.injEq, V.ref.injEq, V.bl.injEq, V.str.injEq, List.cons.injEq, HO.ins.injEq, HO.tup.injEq, il_inj, rl_inj, sl_inj, bl_inj, and_assoc, true_and, and_true, decide_eq_true_eq, Bool.not_eq_true', decide_eq_false_iff_not, reduceCtorEq, upd_same, upd_old, Option.isSome_some, Option.isSome_none, ite_true, ite_false, wipe, *])
local macro_rules | `(tactic| walk_at "r0") => `(tactic| try simp only [tSeq, tAsg, tVar, tC, tOp, tTest, tIfS, tNext, tRet, tDrop, gName, rI0, rI, rU, tUn, rEq_int, rNe_int, tFn, tFnS, tCons, tNil, tChain, tAndV, tOrV, tNotV, tAnd, tOr, tNot, tB, tIf, L2.start, tFor_eq, tLc_eq, iIL, iRL, iRng1, iRng2, iRng3, iEnR, iEnI, iZpR, iZpI, iStr, iTup, rIxI, rIxR, rIxRL, rIxK, rSlI, tSl, tNoPart, tPart, rInI, rNotInI, rInK, rInT, rInF, rInL, rLenI, rLenR, rLenA, rListI, rSortI', rAllB, rEqI, rNeI, rCatI, rCatS, tLM, rAppI, rAppR, rExtI, rIdxI, tLstI, tLstS, tFldT, sFldT, gUnI, gUnR, gTupT, gCons, gNil, sAugT, tTup, tLst, tCB, tAug, ipI, tPar, tM1, tMth, tMk, tRz, tRangeL, tYes, allInts, tupInts, allStrs, tupStrs, L2.rIsN, tIsN, rgV,
  List.map_cons, List.map_nil, List.length_cons, List.length_nil, Nat.zero_add, Nat.reduceAdd, Nat.reduceSub, Nat.reduceLeDiff, Nat.sub_zero, List.replicate_succ, List.replicate_zero, List.cons_append, List.nil_append, List.append_nil, List.set_cons_zero, List.set_cons_succ, List.getElem?_cons_zero, List.getElem?_cons_succ, Option.some.injEq, exists_and_left, exists_and_right, exists_eq_left', exists_eq_left, ex_il, ex_rl, ex_sl, lk_tok1, lk_tok2, lk_tok3, lk_tok4, lk_rdr1, lk_rdr2, lk_rdr3, lk_rdr4, lk_rdr5, lk_ply1, lk_ply2, lk_tbl1, lk_tbl2, lk_tbl3, lk_cal1, lk_cal2, lk_cal3, lk_dsk1, lk_dsk2, lk_dsk3, pt_rdr2, pt_dsk2, len_rdr, len_dsk, Nat.reduceLT, HO.lst.injEq, Int.zero_add, exists_eq, exists_eq', V.int.injEq, V.ref.injEq, V.bl.injEq, V.str.injEq, List.cons.injEq, HO.ins.injEq, HO.tup.injEq, il_inj, rl_inj, sl_inj, bl_inj, and_assoc, true_and, and_true, decide_eq_true_eq, Bool.not_eq_true', decide_eq_false_iff_not, reduceCtorEq, upd_same, upd_old, Option.isSome_some, Option.isSome_none, ite_true, ite_false, wipe])
section
variable {P : Program} {w : World} {K : PySem.W.Frag} {mg : Str → Option Value} {base : Heap} {A : Ads}
def sp_ply (A : Ads) : Sp := fun vs H Q _ => ∃ (x dx : Addr) (n : Addr) (k : Int), vs = [.ref x, .ref n, .int k] ∧ H x = some (.ins A.ply dx []) ∧ Q .non (upd H x (.ins A.ply dx (plyF n k)))
theorem mk_Player (T : Txt K mg A) : MkAt P w K mg base 1 "Player" A.ply ["self", "name", "key"] (sp_ply A) := by
  refine T.c_Player.mk_ sc_Player___init__ (fun vs H Q E h => by obtain ⟨_, _, _, _, rfl, _⟩ := h; rfl) (fun f cdv Ar outer s H vs Q E hr h => ⟨_, (pss_cons (ps_fldT T.c_Player.cl T.n_Player_name (pv 0) (pv 1) rfl) (pss_one (ps_fldT T.c_Player.cl T.n_Player_key (pv 0) (pv 2) rfl))), ?_⟩)
  obtain ⟨x, dx, n, k, rfl, hx, q⟩ := h
  walk_at "rd"
  rw [upd_upd, pt_ply]
  exact ⟨(by show 1 < 1000; decide), q⟩
def sp_tbl (A : Ads) : Sp := fun vs H Q _ => ∃ (x dx : Addr) (p : Int) (d l : Addr), vs = [.ref x, .int p, .ref d, .ref l] ∧ H x = some (.ins A.tbl dx []) ∧ Q .non (upd H x (.ins A.tbl dx (tblF p d l)))
theorem mk_Table (T : Txt K mg A) : MkAt P w K mg base 1 "Table" A.tbl ["self", "prime", "deck", "players"] (sp_tbl A) := by
  refine T.c_Table.mk_ sc_Table___init__ (fun vs H Q E h => by obtain ⟨_, _, _, _, _, rfl, _⟩ := h; rfl) (fun f cdv Ar outer s H vs Q E hr h => ⟨_, (pss_cons (ps_fldT T.c_Table.cl T.n_Table_prime (pv 0) (pv 1) rfl) (pss_cons (ps_fldT T.c_Table.cl T.n_Table_deck (pv 0) (pv 2) rfl) (pss_one (ps_fldT T.c_Table.cl T.n_Table_players (pv 0) (pv 3) rfl)))), ?_⟩)
  obtain ⟨x, dx, p, d, l, rfl, hx, q⟩ := h
  walk_at "rd"
  rw [upd_upd, upd_upd, pt_tbl]
  exact ⟨(by show 1 < 1000; decide), (by show 2 < 1000; decide), q⟩
/-- a player whose name was read in G -/
def PlG (A : Ads) (G H : Hp) (a : Addr) (y : Vbndal.Player) : Prop := ∃ dx na, H a = some (.ins A.ply dx (plyF na y.key)) ∧ G na = some (IL (nI y.name)) ∧ Cm.NmOk y.name
theorem PlG.mono {A : Ads} {G H H' : Hp} {a : Addr} {y : Vbndal.Player} (s : Same H H') : PlG A G H a y → PlG A G H' a y := fun ⟨dx, na, h1, h2, h3⟩ => ⟨dx, na, s _ _ h1, h2, h3⟩
theorem paired_of {α β : Type} {F : α → β → Prop} : ∀ {a : List α} {b : List β}, a.length = b.length → (∀ (i : Nat) (x : α) (y : β), a[i]? = some x → b[i]? = some y → F x y) → Paired F a b
  | [], [], _, _ => .nil
  | [], _ :: _, h, _ => by simp at h
  | _ :: _, [], h, _ => by simp at h
  | x :: a, y :: b, h, q => .cons (q 0 x y rfl rfl) (paired_of (by simpa using h) fun i x y h1 h2 => q (i + 1) x y (by simpa using h1) (by simpa using h2))
theorem nI_memL {w : List Nat} {L : List (List Nat)} : nI w ∈ L.map nI ↔ w ∈ L := by
  constructor
  · intro h
    obtain ⟨v, hv, e⟩ := List.mem_map.mp h
    rw [nI_inj] at e
    exact e ▸ hv
  · exact fun h => List.mem_map.mpr ⟨w, h, rfl⟩
theorem quoted_get {i : Nat} {x : V} (h : ([.str "prime", .str "deck", .str "player", .str "key"] : List V)[i]? = some x) : ∃ c, Vbndal.keywords[i]? = some c ∧ x = .str (SX.S c) := by
  match i, h with
  | 0, h => cases h; exact ⟨_, rfl, congrArg V.str (str_S _)⟩
  | 1, h => cases h; exact ⟨_, rfl, congrArg V.str (str_S _)⟩
  | 2, h => cases h; exact ⟨_, rfl, congrArg V.str (str_S _)⟩
  | 3, h => cases h; exact ⟨_, rfl, congrArg V.str (str_S _)⟩
  | i + 4, h => simp at h
theorem key_len {i : Nat} {c : List Nat} (h : Vbndal.keywords[i]? = some c) : c.length ≤ 100000 := by
  have : ∀ x ∈ Vbndal.keywords, x.length ≤ 8 := by decide
  have := this c (mem_of_get h)
  omega
def sp_rname (A : Ads) : Sp := fun vs H Q E => ∃ (G : Hp) (r : Addr) (len : Nat) (l : Vbndal.Tokens) (la : Addr) (as : List Addr) (m : List Vbndal.Player), vs = [.ref r, .ref la] ∧ RdT A G r len l H ∧ H la = some (RL as) ∧ Paired (PlG A G H) as m ∧ m.length ≤ 4 ∧
  (∀ w l' H' sa, Cm.nameStep len m l = .ok (w, l') → But r H H' → RdT A G r len l' H' → G sa = some (IL (nI w)) → Cm.NmOk w → Q (.ref sa) H') ∧ (∀ e, Cm.nameStep len m l = .error e → SpoB r A (e.code : Nat) (e.offset : Nat) H E)
theorem fn_read_name (T : Txt K mg A) : FnAt P w K mg base (L2.CX P w) 4 "read_name" ["reader", "players"] (sp_rname A) := by
  refine T.d_read_name.fnX sc_read_name (fun vs H Q E h => by obtain ⟨_, _, _, _, _, _, _, rfl, _⟩ := h; rfl) (fun f cdv Ar outer s H vs Q E hr h => ⟨_, (pss_cons (ps_set (i := 2) sc_read_name.nd rfl (.inl rfl) (pe_mth T.c_Reader.cl (fn_Reader_take T) (hr.mono (by decide)) (passes_call (takes_of rfl rfl rfl rfl) (fun _ _ _ _ h => h)) (pv 0) (pa_cons (pe_ki T.k_WORD) pa_nil))) (pss_cons (ps_if (pt_cmpR (op_inL hr.units1) (pe_fldT T.c_Token.cl T.n_Token_signs (pv 2) rfl) (pe_lc (own := [("word", 3)]) (g := gName 3) (tt := tYes) rfl sc_read_name.nd (pi_tup (pe_kt T.k_QUOTED)) (blkOk_by (N := ["reader", "players", "token", "word", "player"]) (sc := defScope s_read_name) (by decide +kernel)) (fun _ _ _ _ _ => (pg_name (i := 3) sc_read_name.nd rfl (Or.inl rfl))) (fun _ _ _ _ _ => pts_nil) (fun _ _ _ _ _ => (pe_fn (fn_signs_of T) (hr.mono (by decide)) pass0 (pa_cons (pv 3) pa_nil)))) (by rfl)) (pss_one (ps_rz (err_Spoilt T) rfl (takes_of rfl rfl rfl rfl) (hr.mono (by decide)) (pa_cons (pe_ki T.k_NOT_ALLOWED) (pa_cons (pe_fldT T.c_Token.cl T.n_Token_offset (pv 2) rfl) pa_nil)))) pss_nil) (pss_cons (ps_if (PW.pt (pw_or (pt_cmpR (op_inL hr.units1) (pe_fldT T.c_Token.cl T.n_Token_signs (pv 2) rfl) (pe_lc (own := [("player", 4)]) (g := gName 4) (tt := tYes) rfl sc_read_name.nd (pi_RL K (pv 1)) (blkOk_by (N := ["reader", "players", "token", "word", "player"]) (sc := defScope s_read_name) (by decide +kernel)) (fun _ _ _ _ _ => (pg_name (i := 4) sc_read_name.nd rfl (Or.inl rfl))) (fun _ _ _ _ _ => pts_nil) (fun _ _ _ _ _ => (pe_fldT T.c_Player.cl T.n_Player_name (pv 4) rfl))) (by rfl)) (pw_or1 (pt_cmpR op_eq (pe_callB len_R (by rfl) T.b_len (by decide +kernel) (pa_cons (pv 1) pa_nil)) (pe_ki T.k_MOST_PLAYERS) (nomark _))))) (pss_one (ps_rz (err_Spoilt T) rfl (takes_of rfl rfl rfl rfl) (hr.mono (by decide)) (pa_cons (pe_ki T.k_TWICE) (pa_cons (pe_fldT T.c_Token.cl T.n_Token_offset (pv 2) rfl) pa_nil)))) pss_nil) (pss_one (ps_ret (pe_fldT T.c_Token.cl T.n_Token_signs (pv 2) rfl)))))), ?_⟩)
  obtain ⟨G, r, len, l, la, as, m, rfl, hR, hla, hpl, hml, q, qe⟩ := h
  obtain ⟨dr, ta, rn, hr0⟩ := hR.obj
  walk_at "rd"
  refine ⟨G, r, len, l, 1, rfl, hR, by decide, fun i t l' sg b H1 el ek hsg hb s1 hR1 => ?_, fun hk => qe _ (by unfold Cm.nameStep; rw [Cm.name_no hk])⟩
  obtain ⟨w, rfl⟩ := kof1 ek
  obtain ⟨rfl, hw8⟩ := hsg
  subst el
  obtain ⟨dx, sa, hb1, hbG⟩ := hb
  obtain ⟨_, _, hb1', _⟩ := hR1.tk ⟨dx, sa, hb1, hbG⟩
  have hb1 := hR1.but _ _ (hR1.neG hb1 fun _ _ _ => tok_rdr) hb1
  have hb2 := hR1.ilG hbG
  clear hb1'
  have hla1 := hR.rl s1 hla
  rw [Cm.name_word] at q qe
  walk_at "rd"
  refine ⟨⟨_, T.k_QUOTED.sq _⟩, fun D hD => ?_⟩
  refine lc_rf walk_tup (fun i a H => ∃ c, Vbndal.keywords[i]? = some c ∧ H a = some (IL (nI c))) (fun i a H H' s ⟨c, h1, h2⟩ => ⟨c, h1, s _ _ h2⟩) hD (fun i a H o hne ⟨c, h1, h2⟩ => ⟨c, h1, by rw [upd_ne hne]; exact h2⟩) (by decide) (fun H s => T.k_QUOTED.sq _) (fun i x H3 H4 C hi s3 hne y s4 c => ?_) (fun i H x H' y => by rw [y.1]; exact Same.refl _) fun H2 bs s2 hbl hbs hb => ?_
  · obtain ⟨rfl, hx⟩ := y
    obtain ⟨k, hk, rfl⟩ := quoted_get hx
    walk_at "r0"
    refine ⟨_, rfl, key_len hk, fun H5 b s5 h5 hn => ?_⟩
    exact c b H5 (fun z => hne (z ▸ hn)) ⟨k, hk, h5⟩ s5
  · have hR2 := hR1.mono s2
    have hb12 := s2 _ _ hb1
    have hb22 := s2 _ _ hb2
    have hla2 := s2 _ _ hla1
    have hpr : Paired (fun a l => H2 a = some (IL l)) bs (Vbndal.keywords.map nI) := paired_of (by rw [hbl, List.length_map]; rfl) fun i a y h1 h2 => by
      obtain ⟨_, c, h3, h4⟩ := hb i a h1
      rw [List.getElem?_map, h3] at h2
      cases h2
      exact h4
    walk_at "r0"
    refine ⟨_, hb22, _, hbs, _, hpr, ?_⟩
    split
    · rename_i h1
      refine ⟨_, _, hb12, _, rfl, ?_⟩
      exact spo_end ((qe _ (if_pos (List.contains_iff_mem.mpr (nI_memL.mp h1)))).mono (s1.trans (But.of s2))).spo
    · rename_i h1
      rw [if_neg (fun z => h1 (nI_memL.mpr (List.contains_iff_mem.mp z)))] at q qe
      refine ⟨_, _, hb12, _, rfl, ⟨_, hla2⟩, fun D2 hD2 => ?_⟩
      have hpl2 : Paired (PlG A G H2) as m := L2.Paired.mapP hpl fun a y ⟨dx, na, h1, h2, h3⟩ => ⟨dx, na, s2 _ _ (hR.at s1 h1 fun _ _ _ => ply_rdr), h2, h3⟩
      have hlen := paired_len hpl
      refine lc_rf walk_RL (fun i a H => ∃ y, m[i]? = some y ∧ H a = some (IL (nI y.name))) (fun i a H H' s ⟨c, h1, h2⟩ => ⟨c, h1, s _ _ h2⟩) hD2 (fun i a H o hne ⟨c, h1, h2⟩ => ⟨c, h1, by rw [upd_ne hne]; exact h2⟩) (by omega) (fun H s => s _ _ hla2) (fun i x H3 H4 C hi s3 hne y s4 c => ?_) rl_same fun H3 cs s3 hcl hcs hc => ?_
      · obtain ⟨rfl, n, hn, rfl⟩ := y
        obtain ⟨y, hy⟩ : ∃ y, m[i]? = some y := ⟨m[i]'(by omega), List.getElem?_eq_getElem (by omega)⟩
        obtain ⟨dy, na, h1, h2, h3⟩ := paired_get hpl2 hn hy
        have hna := hR2.ilG h2
        have h1' := s3 _ _ h1
        walk_at "r0"
        refine ⟨_, _, h1', _, rfl, ?_⟩
        exact c na H4 (ne_of_none hna hD2) ⟨y, hy, s3 _ _ hna⟩ (Same.refl _)
      · have hR3 := hR2.mono s3
        have hpr3 : Paired (fun a l => H3 a = some (IL l)) cs ((m.map fun y => y.name).map nI) := paired_of (by rw [hcl, List.length_map, List.length_map]; exact hlen) fun i a y h1 h2 => by
          obtain ⟨_, c, h3, h4⟩ := hc i a h1
          rw [List.getElem?_map, List.getElem?_map, h3] at h2
          cases h2
          exact h4
        have hb13 := s3 _ _ hb12
        have hla3 := s3 _ _ hla2
        have s13 := s1.trans (But.of (s2.trans s3))
        refine ⟨_, rfl, _, rfl, _, s3 _ _ hb22, _, hcs, _, hpr3, ?_⟩
        have hany : (m.any fun x => x.name == sg) = true ↔ nI sg ∈ (m.map fun y => y.name).map nI := by
          rw [nI_memL, List.any_eq_true, List.mem_map]
          exact ⟨fun ⟨x, h1, h2⟩ => ⟨x, h1, eq_of_beq h2⟩, fun ⟨x, h1, h2⟩ => ⟨x, h1, beq_iff_eq.mpr h2⟩⟩
        split
        · rename_i h2
          refine ⟨_, _, hb13, _, rfl, ?_⟩
          exact spo_end ((qe _ (if_pos (.inl (hany.mpr h2)))).mono s13).spo
        · rename_i h2
          refine ⟨_, hla3, ?_⟩
          split
          · rename_i h3
            refine ⟨_, _, hb13, _, rfl, ?_⟩
            exact spo_end ((qe _ (if_pos (.inr (by show 4 ≤ m.length; omega)))).mono s13).spo
          · rename_i h3
            refine ⟨_, _, hb13, _, rfl, ?_⟩
            refine q sg l' H3 sa (if_neg ?_) s13 hR3 ?_ hw8
            · rintro (z | z)
              · exact h2 (hany.mp z)
              · have : 4 ≤ m.length := z
                omega
            · exact hbG
theorem sgn_of (x : String) (hx : (Vbndal.toBytes x).length ≤ 100000) {H : Hp} {Q : VK} {E : XK} (q : ∀ H' b, Same H H' → H' b = some (IL (nI (Vbndal.toBytes x))) → H b = none → Q (.ref b) H') : sp_signs [.str (Str.ofString x)] H Q E := ⟨Vbndal.toBytes x, by rw [str_S], hx, q⟩
def sp_rplayer (A : Ads) : Sp := fun vs H Q E => ∃ (G : Hp) (r : Addr) (len : Nat) (l : Vbndal.Tokens) (p : Nat) (la : Addr) (as : List Addr) (m : List Vbndal.Player), vs = [.ref r, .int p, .ref la] ∧ RdT A G r len l H ∧ Cm.Pr p ∧ H la = some (RL as) ∧ Paired (PlG A G H) as m ∧ m.length ≤ 4 ∧
  (∀ y l' H' b, Cm.plStep len p m l = .ok (y, l') → But r H H' → RdT A G r len l' H' → PlG A G H' b y → Q (.ref b) H') ∧ (∀ e, Cm.plStep len p m l = .error e → SpoB r A (e.code : Nat) (e.offset : Nat) H E)
theorem PlG.but {G H H' : Hp} {r : Addr} {len : Nat} {l : Vbndal.Tokens} (hR : RdT A G r len l H) (s : But r H H') {a : Addr} {y : Vbndal.Player} : PlG A G H a y → PlG A G H' a y := fun ⟨dx, na, h1, h2, h3⟩ => ⟨dx, na, hR.at s h1 fun _ _ _ => ply_rdr, h2, h3⟩
theorem fn_read_player (T : Txt K mg A) : FnAt P w K mg base (L2.CX P w) 5 "read_player" ["reader", "prime", "players"] (sp_rplayer A) := by
  refine T.d_read_player.fnX sc_read_player (fun vs H Q E h => by obtain ⟨_, _, _, _, _, _, _, _, rfl, _⟩ := h; rfl) (fun f cdv Ar outer s H vs Q E hr h => ⟨_, (pss_cons (ps_expr (pe_mth T.c_Reader.cl (fn_Reader_take_word T) (hr.mono (by decide)) (passes_call (takes_of rfl rfl rfl rfl) (fun _ _ _ _ h => h)) (pv 0) (pa_cons (pe_fn (fn_signs_of T) (hr.mono (by decide)) pass0 (pa_cons (pe_ks T.k_PLAYER) pa_nil)) pa_nil))) (pss_cons (ps_set (i := 3) sc_read_player.nd rfl (.inl rfl) (pe_fn (fn_read_name T) (hr.mono (by decide)) (passes_call (takes_of rfl rfl rfl rfl) (fun _ _ _ _ h => h)) (pa_cons (pv 0) (pa_cons (pv 2) pa_nil)))) (pss_cons (ps_expr (pe_mth T.c_Reader.cl (fn_Reader_take_word T) (hr.mono (by decide)) (passes_call (takes_of rfl rfl rfl rfl) (fun _ _ _ _ h => h)) (pv 0) (pa_cons (pe_fn (fn_signs_of T) (hr.mono (by decide)) pass0 (pa_cons (pe_ks T.k_KEY) pa_nil)) pa_nil))) (pss_cons (ps_set (i := 4) sc_read_player.nd rfl (.inl rfl) (pe_fn (fn_read_key T) (hr.mono (by decide)) (passes_call (takes_of rfl rfl rfl rfl) (fun _ _ _ _ h => h)) (pa_cons (pv 0) (pa_cons (pv 1) pa_nil)))) (pss_cons (ps_expr (pe_mth T.c_Reader.cl (fn_Reader_take T) (hr.mono (by decide)) (passes_call (takes_of rfl rfl rfl rfl) (fun _ _ _ _ h => h)) (pv 0) (pa_cons (pe_ki T.k_MARK) pa_nil))) (pss_one (ps_ret (pe_mk1 (mk_Player T) (hr.mono (by decide)) (pa_cons (pv 3) (pa_cons (pv 4) pa_nil)))))))))), ?_⟩)
  obtain ⟨G, r, len, l, p, la, as, m, rfl, hR, hP, hla, hpl, hml, q, qe⟩ := h
  obtain ⟨dr, ta, rn, hr0⟩ := hR.obj
  walk_at "rd"
  refine sgn_of "player" (by decide) fun H1 b s1 hb _ => ?_
  refine ⟨G, r, len, l, b, "player", rfl, hR.mono s1, hb, fun l1 H2 e1 s2 hR2 => ?_, fun e he => (qe e (by simp only [Cm.plStep, he])).mono (But.of s1)⟩
  have t2 := (But.of s1).trans s2
  refine ⟨G, r, len, l1, la, as, m, rfl, hR2, hR.rl t2 hla, L2.Paired.mapP hpl fun _ _ => PlG.but hR t2, hml, fun wd l2 H3 sa e2 s3 hR3 hsa hw8 => ?_, fun e he => (qe e (by simp only [Cm.plStep, e1, he])).mono t2⟩
  have t3 := t2.trans s3
  obtain ⟨dr3, ta3, rn3, hr3⟩ := hR3.obj
  refine ⟨_, _, hr3, rfl, ?_⟩
  refine sgn_of "key" (by decide) fun H4 b4 s4 hb4 _ => ?_
  have t4 := t3.trans (But.of s4)
  refine ⟨G, r, len, l2, b4, "key", rfl, hR3.mono s4, hb4, fun l3 H5 e3 s5 hR5 => ?_, fun e he => (qe e (by simp only [Cm.plStep, e1, e2, he])).mono t4⟩
  have t5 := t4.trans s5
  refine ⟨G, r, len, l3, p, rfl, hR5, hP, fun i k l4 H6 e4 s6 hR6 => ?_, fun e he => (qe e (by simp only [Cm.plStep, e1, e2, e3, he])).mono t5⟩
  have t6 := t5.trans s6
  obtain ⟨dr6, ta6, rn6, hr6⟩ := hR6.obj
  refine ⟨_, _, hr6, rfl, ?_⟩
  refine ⟨G, r, len, l4, 3, rfl, hR6, by decide, fun i t l' sg b H7 el ek hsg hb s7 hR7 => ?_, fun hk => (qe ⟨1, Vbndal.currentOffset len l4⟩ (by simp only [Cm.plStep, e1, e2, e3, e4, Cm.ex_semi, if_neg hk])).mono t6⟩
  have e5 : Vbndal.expect len .semicolon l4 = .ok l' := by
    rw [el, kof3 ek, Cm.ex_semi]
    rfl
  have t7 := t6.trans s7
  intro x dx hx hdx hne
  have s8 := Same.mk hx hdx (o := .own x) (u := .ins A.ply dx []) (w := .ins A.ply dx (plyF sa (k : Nat)))
  refine ⟨x, dx, sa, (k : Nat), rfl, upd_same, rfl, ?_⟩
  exact q ⟨wd, k⟩ l' _ x (by simp only [Cm.plStep, e1, e2, e3, e4, e5]) (t7.trans (But.of s8)) (hR7.mono s8) ⟨dx, sa, upd_same, hsa, hw8⟩
/-- a table whose lists were made behind H0 -/
def TbN (A : Ads) (H0 H : Hp) (a : Addr) (t : Vbndal.Table) : Prop := ∃ dx da la as, H a = some (.ins A.tbl dx (tblF t.prime da la)) ∧ H da = some (IL (nI t.deck)) ∧ H la = some (RL as) ∧ Paired (PlAt A H) as t.players ∧ H0 da = none ∧ H0 la = none
def sp_rtable (A : Ads) : Sp := fun vs H Q E => ∃ (a : Addr) (t : List Nat), vs = [.ref a] ∧ H a = some (IL (nI t)) ∧ t.length ≤ 1000 ∧
  (∀ tb H' b, Vbndal.parseTable t = .ok tb → TOk tb → Same H H' → TbN A H H' b tb → Q (.ref b) H') ∧ (∀ e, Vbndal.parseTable t = .error e → SpoE A (e.code : Nat) (e.offset : Nat) H E)
structure WPl (A : Ads) (G : Hp) (r D : Addr) (len p : Nat) (l0 : Vbndal.Tokens) (Z : L2.St) (N : Nat) (σ : L2.St) (H' : Hp) (l : Vbndal.Tokens) (m : List Vbndal.Player) (as : List Addr) (f : Nat) : Prop where
  rd : RdT A G r len l H'
  hs : σ = Z
  hN : N = l.length
  hf : l.length < f
  pp : Vbndal.parsePlayers len p (l0.length + 1) [] l0 = Vbndal.parsePlayers len p f m l
  hD : H' D = some (RL as)
  pd : Paired (PlG A G H') as m
  ks : ∀ y ∈ m, Cm.IsK p y.key
  n8 : ∀ y ∈ m, Cm.NmOk y.name
  ml : m.length ≤ 4
theorem fn_read_table (T : Txt K mg A) : FnAt P w K mg base (L2.CX P w) 6 "read_table" ["text"] (sp_rtable A) := by
  refine T.d_read_table.fnX sc_read_table (fun vs H Q E h => by obtain ⟨_, _, rfl, _⟩ := h; rfl) (fun f cdv Ar outer s H vs Q E hr h => ⟨_, (pss_cons (ps_set (i := 1) sc_read_table.nd rfl (.inl rfl) (pe_mk1 (mk_Reader T) (hr.mono (by decide)) (pa_cons (pe_fn (fn_tokens_of T) (hr.mono (by decide)) pass0 (pa_cons (pv 0) pa_nil)) pa_nil))) (pss_cons (ps_expr (pe_mth T.c_Reader.cl (fn_Reader_take_word T) (hr.mono (by decide)) (passes_call (takes_of rfl rfl rfl rfl) (fun _ _ _ _ h => h)) (pv 1) (pa_cons (pe_fn (fn_signs_of T) (hr.mono (by decide)) pass0 (pa_cons (pe_ks T.k_PRIME) pa_nil)) pa_nil))) (pss_cons (ps_set (i := 2) sc_read_table.nd rfl (.inl rfl) (pe_fn (fn_read_prime T) (hr.mono (by decide)) (passes_call (takes_of rfl rfl rfl rfl) (fun _ _ _ _ h => h)) (pa_cons (pv 1) pa_nil))) (pss_cons (ps_expr (pe_mth T.c_Reader.cl (fn_Reader_take T) (hr.mono (by decide)) (passes_call (takes_of rfl rfl rfl rfl) (fun _ _ _ _ h => h)) (pv 1) (pa_cons (pe_ki T.k_MARK) pa_nil))) (pss_cons (ps_expr (pe_mth T.c_Reader.cl (fn_Reader_take_word T) (hr.mono (by decide)) (passes_call (takes_of rfl rfl rfl rfl) (fun _ _ _ _ h => h)) (pv 1) (pa_cons (pe_fn (fn_signs_of T) (hr.mono (by decide)) pass0 (pa_cons (pe_ks T.k_DECK) pa_nil)) pa_nil))) (pss_cons (ps_set (i := 3) sc_read_table.nd rfl (.inl rfl) (pe_fn (fn_read_deck T) (hr.mono (by decide)) (passes_call (takes_of rfl rfl rfl rfl) (fun _ _ _ _ h => h)) (pa_cons (pv 1) (pa_cons (pv 2) pa_nil)))) (pss_cons (ps_expr (pe_mth T.c_Reader.cl (fn_Reader_take T) (hr.mono (by decide)) (passes_call (takes_of rfl rfl rfl rfl) (fun _ _ _ _ h => h)) (pv 1) (pa_cons (pe_ki T.k_MARK) pa_nil))) (pss_cons (ps_set (i := 4) sc_read_table.nd rfl (.inl rfl) (pe_lst pa_nil)) (pss_cons (ps_while (passes_of rfl) (pt_cmpR op_ne (pe_mth0 T.c_Reader.cl (fn_Reader_next_kind T) (hr.mono (by decide)) pass0 (pv 1)) (pe_ki T.k_END) (nomark _)) (pss_one (ps_expr (pe_lm PySem.F.plainAttrs_list PySem.F.slot_list_append PySem.F.type_list_append app_R (pv 4) (pa_cons (pe_fn (fn_read_player T) (hr.mono (by decide)) (passes_call (takes_of rfl rfl rfl rfl) (fun _ _ _ _ h => h)) (pa_cons (pv 1) (pa_cons (pv 2) (pa_cons (pv 4) pa_nil)))) pa_nil))))) (pss_one (ps_ret (pe_mk1 (mk_Table T) (hr.mono (by decide)) (pa_cons (pv 2) (pa_cons (pv 3) (pa_cons (pv 4) pa_nil))))))))))))))), ?_⟩)
  obtain ⟨a, t, rfl, ha, hl, q, qe⟩ := h
  rw [Cm.tb_eq] at q qe
  walk_at "rd"
  refine ⟨a, t, rfl, ha, hl, fun H1 ta as ks s1 hta hpd htr => ?_⟩
  intro r dx hr hdx hne
  refine ⟨r, dx, ta, rfl, upd_same, rfl, ?_⟩
  have sG := Same.mk hr hdx (o := .own r) (u := .ins A.rdr dx []) (w := .ins A.rdr dx (rdrF ta 0))
  have hGr : (upd (upd (upd H1 dx (.own r)) r (.ins A.rdr dx [])) r (.ins A.rdr dx (rdrF ta 0))) r = some (.ins A.rdr dx (rdrF ta 0)) := upd_same
  generalize upd (upd (upd H1 dx (.own r)) r (.ins A.rdr dx [])) r (.ins A.rdr dx (rdrF ta 0)) = G at sG hGr ⊢
  have hR : RdT A G r t.length (Cm.TZ 0 t) G := ⟨dx, ta, as, ks, 0, hGr, sG _ _ hta, L2.Paired.mapP hpd fun _ _ => TkAt.mono sG, by rw [List.drop_zero]; exact htr, But.of (Same.refl _), hGr⟩
  have hB : ∀ H', But r G H' → Same H H' := fun H' b c o h => b _ _ (ne_of_none (s1 _ _ h) hr) (sG _ _ (s1 _ _ h))
  have hE : ∀ e : Vbndal.ParseError, Cm.tbStep t = .error e → SpoB r A (e.code : Nat) (e.offset : Nat) G E := fun e h d H' b z => qe e h d H' (hB H' b) z
  clear qe htr hpd hta
  refine ⟨_, _, hGr, rfl, ?_⟩
  refine sgn_of "prime" (by decide) fun H2 b s2 hb _ => ?_
  have t2 := But.of (r := r) s2
  refine ⟨G, r, t.length, _, b, "prime", rfl, hR.mono s2, hb, fun l1 H3 e1 s3 hR3 => ?_, fun e he => (hE e (by simp only [Cm.tbStep, he])).mono t2⟩
  have t3 := t2.trans s3
  refine ⟨G, r, t.length, l1, rfl, hR3, fun i p l2 H4 e2 hp1 s4 hR4 => ?_, fun e he => (hE e (by simp only [Cm.tbStep, e1, he])).mono t3⟩
  have t4 := t3.trans s4
  have hP : Cm.Pr p := Cm.Pr.of hp1 (Cm.pn_ok e2).2
  obtain ⟨dx4, ta4, rn4, hr4⟩ := hR4.obj
  refine ⟨_, _, hr4, rfl, ?_⟩
  refine ⟨G, r, t.length, l2, 3, rfl, hR4, by decide, fun i3 t3' l3 sg3 b3 H5 el3 ek3 _ _ s5 hR5 => ?_, fun hk => (hE ⟨1, Vbndal.currentOffset t.length l2⟩ (by simp only [Cm.tbStep, e1, e2, Cm.ex_semi, if_neg hk])).mono t4⟩
  have e3 : Vbndal.expect t.length .semicolon l2 = .ok l3 := by
    rw [el3, kof3 ek3, Cm.ex_semi]
    rfl
  have t5 := t4.trans s5
  obtain ⟨dx5, ta5, rn5, hr5⟩ := hR5.obj
  refine ⟨_, _, hr5, rfl, ?_⟩
  refine sgn_of "deck" (by decide) fun H6 b6 s6 hb6 _ => ?_
  have t6 := t5.trans (But.of s6)
  refine ⟨G, r, t.length, l3, b6, "deck", rfl, hR5.mono s6, hb6, fun l4 H7 e4 s7 hR7 => ?_, fun e he => (hE e (by simp only [Cm.tbStep, e1, e2, e3, he])).mono t6⟩
  have t7 := t6.trans s7
  refine ⟨G, r, t.length, l4, p, rfl, hR7, hP, fun m l5 H8 D e5 s8 hR8 hD8 hGD hHD hnd hcs hm2 hm10 => ?_, fun e he => (hE e (by simp only [Cm.tbStep, e1, e2, e3, e4, he])).mono t7⟩
  have t8 := t7.trans s8
  obtain ⟨dx8, ta8, rn8, hr8⟩ := hR8.obj
  refine ⟨_, _, hr8, rfl, ?_⟩
  refine ⟨G, r, t.length, l5, 3, rfl, hR8, by decide, fun i9 t9' l6 sg9 b9 H9 el9 ek9 _ _ s9 hR9 => ?_, fun hk => (hE ⟨1, Vbndal.currentOffset t.length l5⟩ (by simp only [Cm.tbStep, e1, e2, e3, e4, e5, Cm.ex_semi, if_neg hk])).mono t8⟩
  have e6 : Vbndal.expect t.length .semicolon l5 = .ok l6 := by
    rw [el9, kof3 ek9, Cm.ex_semi]
    rfl
  have t9 := t8.trans s9
  have hD9 := hR8.il s9 hD8
  refine ⟨Nat.zero_le _, fun L hL => ?_⟩
  have hGL := hR9.none hL
  have hDL : D ≠ L := ne_of_none hD9 hL
  have hE6 : ∀ e, Vbndal.parsePlayers t.length p (l6.length + 1) [] l6 = .error e → SpoB r A (e.code : Nat) (e.offset : Nat) G E := fun e he => hE e (by simp only [Cm.tbStep, e1, e2, e3, e4, e5, e6, he])
  have hQ6 : ∀ ys, Vbndal.parsePlayers t.length p (l6.length + 1) [] l6 = .ok ys → Cm.tbStep t = .ok ⟨p, m, ys⟩ := fun ys he => by simp only [Cm.tbStep, e1, e2, e3, e4, e5, e6, he]
  clear hE e1 e2 e3 e4 e5 e6 hr4 hr5 hr8 ek3 ek9 el3 el9
  refine while_m (fun N σ H' => ∃ l ys as f, WPl A G r L t.length p l6 [some (.ref a), some (.ref r), some (.int p), some (.ref D), some (.ref L)] N σ H' l ys as f ∧ H' D = some (IL (nI m))) l6.length ?_ ?_
  · exact ⟨l6, [], [], l6.length + 1, ⟨hR9.mono (Same.new hL), rfl, rfl, Nat.lt_succ_self _, rfl, upd_same, .nil, (fun y h => nomatch h), (fun y h => nomatch h), by decide⟩, by rw [upd_ne hDL]; exact hD9⟩
  rintro N σ H10 ⟨l, ys, as2, f, ⟨hR10, rfl, rfl, hf, hpp, hL10, hpd, hks, hn8, hml⟩, hD10⟩
  have t10 := hR10.but
  obtain ⟨dx10, ta10, rn10, hr10⟩ := hR10.obj
  match f, hf, hpp with
  | f + 1, hf, hpp =>
  rw [hpp, Cm.pp_step] at hE6 hQ6
  walk_at "rd"
  refine ⟨G, r, t.length, l, rfl, hR10, ?_⟩
  walk_at "r0"
  split
  · rename_i h5
    have h5 : Cm.kindL l ≠ 5 := by omega
    rw [if_neg h5] at hE6 hQ6
    have hlen := paired_len hpd
    refine ⟨fun σ H' => ∃ m', m' < List.length l ∧ (∃ x x_1 x_2 x_3, WPl A G r L t.length p l6 [some (V.ref a), some (V.ref r), some (V.int ↑p), some (V.ref D), some (V.ref L)] m' σ H' x x_1 x_2 x_3) ∧ H' D = some (IL (nI m)), fun _ _ h => h, ⟨_, hL10⟩, G, r, t.length, l, p, L, as2, ys, rfl, hR10, hP, hL10, hpd, hml, fun y l' H11 b e s11 hR11 hb => ?_, fun e he => (hE6 e (by rw [he])).mono t10⟩
    obtain ⟨hlt, hm4, hk⟩ := Cm.pl_ok e
    have hL11 := hR10.rl s11 hL10
    obtain ⟨_, _, _, _, hy8⟩ := id hb
    have up : ∀ (a : Addr) (y : Vbndal.Player), PlG A G H11 a y → PlG A G (upd H11 L (RL (as2 ++ [b]))) a y := fun a y ⟨dx, na, h1, h2, h3⟩ => ⟨dx, na, by rw [upd_ne (ne_of h1 hL11 (fun z => nomatch z))]; exact h1, h2, h3⟩
    refine ⟨as2, b, rfl, hL11, by rw [sizeLine_eq]; omega, l'.length, hlt, ⟨l', ys ++ [y], as2 ++ [b], f, ⟨hR11.upd hGL hL11, rfl, rfl, by omega, ?_, upd_same, ?_, ?_, ?_, ?_⟩⟩, by rw [upd_ne hDL]; exact hR10.il s11 hD10⟩
    · rw [hpp, Cm.pp_step, if_neg h5, e]
    · exact Paired.snoc (up _ _ hb) (L2.Paired.mapP hpd fun a y z => up _ _ (PlG.but hR10 s11 z))
    · intro z hz
      rcases List.mem_append.mp hz with hz | hz
      · exact hks z hz
      · rw [List.mem_singleton.mp hz]
        exact Cm.isK_iff.mp hk
    · intro z hz
      rcases List.mem_append.mp hz with hz | hz
      · exact hn8 z hz
      · rw [List.mem_singleton.mp hz]
        exact hy8
    · rw [List.length_append]
      simp
      omega
  · rename_i h5
    rw [if_pos (by omega)] at hQ6
    intro x dx hx hdx hne
    have s11 := Same.mk hx hdx (o := .own x) (u := .ins A.tbl dx []) (w := .ins A.tbl dx (tblF (p : Nat) D L))
    refine ⟨x, dx, _, D, L, rfl, upd_same, rfl, ?_⟩
    exact q ⟨p, m, ys⟩ _ x (hQ6 ys rfl) ⟨hP, hcs, hnd, hm2, hm10, hml, hks, hn8⟩ ((hB _ t10).trans s11) ⟨dx, D, L, as2, upd_same, s11 _ _ hD10, s11 _ _ hL10, L2.Paired.mapP hpd fun a y ⟨dx, na, h1, h2, h3⟩ => ⟨dx, na, s11 _ _ h1, s11 _ _ (hR10.ilG h2)⟩, (s1.trans sG).free hGD, (s1.trans sG).free hGL⟩
end
end Cl
set_option Elab.async false
set_option linter.all false
set_option maxRecDepth 100000
set_option maxHeartbeats 4000000
namespace Cl
open PySem PySem.Spec PyProof.Rows L2
local macro_rules | `(tactic| walk_at "rd") => `(tactic| try simp only [tSeq, tAsg, tVar, tC, tOp, tTest, tIfS, tNext, tRet, tDrop, gName, rI0, rI, rU, tUn, rEq_int, rNe_int, tFn, tFnS, tCons, tNil, tChain, tAndV, tOrV, tNotV, tAnd, tOr, tNot, tB, tIf, L2.start, tFor_eq, tLc_eq, iIL, iRL, iRng1, iRng2, iRng3, iEnR, iEnI, iZpR, iZpI, iStr, iTup, rIxI, rIxR, rIxRL, rIxK, rSlI, tSl, tNoPart, tPart, rInI, rNotInI, rInK, rInT, rInF, rInL, rLenI, rLenR, rLenA, rListI, rSortI', rAllB, rEqI, rNeI, rCatI, rCatS, tLM, rAppI, rAppR, rExtI, rIdxI, tLstI, tLstS, tFldT, sFldT, gUnI, gUnR, gTupT, gCons, gNil, sAugT, tTup, tLst, tCB, tAug, ipI, tPar, tM1, tMth, tMk, tRz, tRangeL, tYes, allInts, tupInts, allStrs, tupStrs, L2.rIsN, tIsN, rgV,
  List.map_cons, List.map_nil, List.length_cons, List.length_nil, Nat.zero_add, Nat.reduceAdd, Nat.reduceSub, Nat.reduceLeDiff, Nat.sub_zero, List.replicate_succ, List.replicate_zero, List.cons_append, List.nil_append, List.append_nil, List.set_cons_zero, List.set_cons_succ, List.getElem?_cons_zero, List.getElem?_cons_succ, Option.some.injEq, exists_and_left, exists_and_right, exists_eq_left', exists_eq_left, ex_il, ex_rl, ex_sl, lk_tok1, lk_tok2, lk_tok3, lk_tok4, lk_rdr1, lk_rdr2, lk_rdr3, lk_rdr4, lk_rdr5, lk_ply1, lk_ply2, lk_tbl1, lk_tbl2, lk_tbl3, lk_cal1, lk_cal2, lk_cal3, lk_dsk1, lk_dsk2, lk_dsk3, pt_rdr2, pt_dsk2, len_rdr, len_dsk, Nat.reduceLT, HO.lst.injEq, Int.zero_add, exists_eq, exists_eq', V.int.injEq, V.ref.injEq, V.bl.injEq, V.str.injEq, List.cons.injEq, HO.ins.injEq, HO.tup.injEq, il_inj, rl_inj, sl_inj, bl_inj, and_assoc, true_and, and_true, decide_eq_true_eq, Bool.not_eq_true', decide_eq_false_iff_not, reduceCtorEq, upd_same, upd_old, Option.isSome_some, Option.isSome_none, ite_true, ite_false, wipe, *])
local macro_rules | `(tactic| walk_at "r0") => `(tactic| try simp only [tSeq, tAsg, tVar, tC, tOp, tTest, tIfS, tNext, tRet, tDrop, gName, rI0, rI, rU, tUn, rEq_int, rNe_int, tFn, tFnS, tCons, tNil, tChain, tAndV, tOrV, tNotV, tAnd, tOr, tNot, tB, tIf, L2.start, tFor_eq, tLc_eq, iIL, iRL, iRng1, iRng2, iRng3, iEnR, iEnI, iZpR, iZpI, iStr, iTup, rIxI, rIxR, rIxRL, rIxK, rSlI, tSl, tNoPart, tPart, rInI, rNotInI, rInK, rInT, rInF, rInL, rLenI, rLenR, rLenA, rListI, rSortI', rAllB, rEqI, rNeI, rCatI, rCatS, tLM, rAppI, rAppR, rExtI, rIdxI, tLstI, tLstS, tFldT, sFldT, gUnI, gUnR, gTupT, gCons, gNil, sAugT, tTup, tLst, tCB, tAug, ipI, tPar, tM1, tMth, tMk, tRz, tRangeL, tYes, allInts, tupInts, allStrs, tupStrs, L2.rIsN, tIsN, rgV,
  List.map_cons, List.map_nil, List.length_cons, List.length_nil, Nat.zero_add, Nat.reduceAdd, Nat.reduceSub, Nat.reduceLeDiff, Nat.sub_zero, List.replicate_succ, List.replicate_zero, List.cons_append, List.nil_append, List.append_nil, List.set_cons_zero, List.set_cons_succ, List.getElem?_cons_zero, List.getElem?_cons_succ, Option.some.injEq, exists_and_left, exists_and_right, exists_eq_left', exists_eq_left, ex_il, ex_rl, ex_sl, lk_tok1, lk_tok2, lk_tok3, lk_tok4, lk_rdr1, lk_rdr2, lk_rdr3, lk_rdr4, lk_rdr5, lk_ply1, lk_ply2, lk_tbl1, lk_tbl2, lk_tbl3, lk_cal1, lk_cal2, lk_cal3, lk_dsk1, lk_dsk2, lk_dsk3, pt_rdr2, pt_dsk2, len_rdr, len_dsk, Nat.reduceLT, HO.lst.injEq, Int.zero_add, exists_eq, exists_eq', V.int.injEq, V.ref.injEq, V.bl.injEq, V.str.injEq, List.cons.injEq, HO.ins.injEq, HO.tup.injEq, il_inj, rl_inj, sl_inj, bl_inj, and_assoc, true_and, and_true, decide_eq_true_eq, Bool.not_eq_true', decide_eq_false_iff_not, reduceCtorEq, upd_same, upd_old, Option.isSome_some, Option.isSome_none, ite_true, ite_false, wipe])
section
variable {P : Program} {w : World} {K : PySem.W.Frag} {mg : Str → Option Value} {base : Heap} {A : Ads}
theorem joinL_fold : ∀ (r : List (List Nat)) (x : List Nat), r.foldl (fun a y => a ++ (32 :: y)) x = TL.joinL [32] (x :: r)
  | [], x => rfl
  | y :: r, x => by
    rw [List.foldl_cons, joinL_fold r]
    cases r with
    | nil => simp [TL.joinL]
    | cons z r => simp [TL.joinL]
theorem line_join (ws : List (List Nat)) : Vbndal.printLine ws = TL.joinL [32] ws ++ [59, 10] := by
  cases ws with
  | nil => rfl
  | cons x r =>
    unfold Vbndal.printLine
    simp only []
    rw [joinL_fold]
theorem sum_len : ∀ ws : List (List Nat), (∀ x ∈ ws, x.length ≤ 100) → ((ws.map SX.S).map (·.length)).sum ≤ 100 * ws.length
  | [], _ => Nat.le_refl _
  | x :: ws, h => by
    have h1 := sum_len ws fun z hz => h z (List.mem_cons_of_mem _ hz)
    have h2 := h x (List.mem_cons_self ..)
    have h3 := SX.S_len x
    rw [List.map_cons, List.map_cons, List.sum_cons, List.length_cons, h3]
    omega
def sp_line : Sp := fun vs H Q _ => ∃ (a : Addr) (ws : List (List Nat)), vs = [.ref a] ∧ H a = some (SL (ws.map SX.S)) ∧ ws.length ≤ 20 ∧ (∀ x ∈ ws, x.length ≤ 100) ∧ ∀ H' b, Same H H' → H' b = some (IL (nI (Vbndal.printLine ws))) → Q (.ref b) H'
theorem fn_line_of (T : Txt K mg A) : FnAt P w K mg base CX0 2 "line_of" ["words"] sp_line := by
  refine T.d_line_of.fn sc_line_of (fun vs H Q E h => by obtain ⟨_, _, rfl, _⟩ := h; rfl) (fun f cdv Ar outer s H vs Q E hr h => ⟨_, (pss_one (ps_ret (pe_fn (fn_signs_of T) (hr.mono (by decide)) pass0 (pa_cons (pe_op op_add_str (pe_join pe_str (pv 0)) pe_str) pa_nil)))), ?_⟩)
  obtain ⟨a, ws, rfl, ha, hl, hw, q⟩ := h
  walk_at "rd"
  have e1 : Str.ofString " " = SX.S [32] := str_S " "
  have e2 : Str.ofString ";\n" = SX.S [59, 10] := str_S ";\n"
  have hll := Cm.line_len hw
  rw [line_join, List.length_append] at hll
  refine ⟨ws.map SX.S, .inl (SqL.of ha), ?_, ?_, ?_⟩
  · have := sum_len ws hw
    have e3 : (Str.ofString " ").length = 1 := by rw [e1]; rfl
    rw [List.length_map, e3]
    omega
  · rw [e1, e2, SX.join_S, SX.S_len, SX.S_len, sizeLine_eq]
    omega
  · rw [e1, e2, SX.join_S, SX.S_cat]
    rw [line_join] at q
    exact ⟨_, rfl, by rw [List.length_append]; omega, fun H' b s h _ => q H' b s h⟩
theorem str_dec (n : Nat) : Str.ofString (toString ((n : Nat) : Int)) = SX.S (Vbndal.decimalBytes n) := by
  rw [str_S]
  rfl
theorem log_small {n : Nat} (h : n < 1000) : ((n : Nat) : Int).natAbs.log2 < 1920 := by
  rw [Int.natAbs_natCast]
  have := Nat.log2_le_self n
  omega
theorem nI_app (a b : List Nat) : nI (a ++ b) = nI a ++ nI b := by
  unfold nI
  exact List.map_append
def lineP (y : Vbndal.Player) : List Nat := Vbndal.printLine [Vbndal.toBytes "player", y.name, Vbndal.toBytes "key", Vbndal.decimalBytes y.key]
structure WTx (A : Ads) (a : Addr) (B : List Nat) (tb : Vbndal.Table) (H : Hp) (j : Nat) (σ : L2.St) (H' : Hp) : Prop where
  s : Same H H'
  e : ∃ sa v, σ = [some (.ref a), some (.ref sa), v, none] ∧ H' sa = some (IL (nI (B ++ (tb.players.take j).flatMap lineP))) ∧ (B ++ (tb.players.take j).flatMap lineP).length ≤ 1500 + 500 * j
def sp_text (A : Ads) : Sp := fun vs H Q _ => ∃ (a : Addr) (tb : Vbndal.Table), vs = [.ref a] ∧ TbAt A H a tb ∧ TOk tb ∧ ∀ H' b, Same H H' → H' b = some (IL (nI (Vbndal.printTable tb))) → (Vbndal.printTable tb).length ≤ 4000 → Q (.ref b) H'
theorem fn_text_of (T : Txt K mg A) : FnAt P w K mg base CX0 3 "text_of" ["table"] (sp_text A) := by
  refine T.d_text_of.fn sc_text_of (fun vs H Q E h => by obtain ⟨_, _, rfl, _⟩ := h; rfl) (fun f cdv Ar outer s H vs Q E hr h => ⟨_, (pss_cons (ps_set (i := 1) sc_text_of.nd rfl (.inl rfl) (pe_op op_catI (pe_fn (fn_line_of T) (hr.mono (by decide)) pass0 (pa_cons (pe_lstS (pa_cons (pe_ks T.k_PRIME) (pa_cons (pe_callTy call_str_int (by rfl) T.b_str (by decide +kernel) (pa_cons (pe_fldT T.c_Table.cl T.n_Table_prime (pv 0) rfl) pa_nil)) pa_nil))) pa_nil)) (pe_fn (fn_line_of T) (hr.mono (by decide)) pass0 (pa_cons (pe_op op_catS (pe_lstS (pa_cons (pe_ks T.k_DECK) pa_nil)) (pe_lc (own := [("card", 3)]) (g := gName 3) (tt := tYes) rfl sc_text_of.nd (pi_IL K (pe_fldT T.c_Table.cl T.n_Table_deck (pv 0) rfl)) (blkOk_by (N := ["table", "signs", "player", "card"]) (sc := defScope s_text_of) (by decide +kernel)) (fun _ _ _ _ _ => (pg_name (i := 3) sc_text_of.nd rfl (Or.inl rfl))) (fun _ _ _ _ _ => pts_nil) (fun _ _ _ _ _ => (pe_callTy call_str_int (by rfl) T.b_str (by decide +kernel) (pa_cons (pv 3) pa_nil))))) pa_nil)))) (pss_cons (ps_for PassesOwn.never rfl (pi_RL K (pe_fldT T.c_Table.cl T.n_Table_players (pv 0) rfl)) (pg_name (i := 2) sc_text_of.nd rfl (Or.inl rfl)) (pss_one (ps_set (i := 1) sc_text_of.nd rfl (.inl rfl) (pe_op op_catI (pe_op op_catI (pe_op op_catI (pe_op op_catI (pv 1) (pe_fn (fn_signs_of T) (hr.mono (by decide)) pass0 (pa_cons (pe_op op_add_str (pe_ks T.k_PLAYER) pe_str) pa_nil))) (pe_fldT T.c_Player.cl T.n_Player_name (pv 2) rfl)) (pe_fn (fn_signs_of T) (hr.mono (by decide)) pass0 (pa_cons pe_str pa_nil))) (pe_fn (fn_line_of T) (hr.mono (by decide)) pass0 (pa_cons (pe_lstS (pa_cons (pe_ks T.k_KEY) (pa_cons (pe_callTy call_str_int (by rfl) T.b_str (by decide +kernel) (pa_cons (pe_fldT T.c_Player.cl T.n_Player_key (pv 2) rfl) pa_nil)) pa_nil))) pa_nil)))))) (pss_one (ps_ret (pv 1))))), ?_⟩)
  obtain ⟨a, tb, rfl, ⟨dx, da, la, as, h1, h2, h3, h4⟩, ok, q⟩ := h
  have hp1000 : tb.prime < 1000 := by have := ok.hP.hi; omega
  have hd1000 : ∀ x ∈ tb.deck, x < 1000 := fun x hx => by have := (ok.deck x hx).hi; omega
  walk_at "rd"
  refine ⟨log_small hp1000, fun p1 hp1 => ?_⟩
  have hw1 : ∀ x ∈ [Vbndal.toBytes "prime", Vbndal.decimalBytes tb.prime], x.length ≤ 100 := fun x hx => by
    rcases List.mem_cons.mp hx with rfl | hx
    · decide
    · rw [List.mem_singleton.mp hx]
      have := Cm.dec_len _ hp1000
      omega
  refine ⟨p1, [Vbndal.toBytes "prime", Vbndal.decimalBytes tb.prime], rfl, by rw [upd_same, str_S, str_dec]; rfl, by simp, hw1, fun H1 b1 s1 hb1 => ?_⟩
  have hl1 := Cm.line_len hw1
  have S1 := (Same.new hp1).trans s1
  intro p2 hp2
  have S2 := S1.trans (Same.new (o := SL [Str.ofString "deck"]) hp2)
  refine ⟨_, _, S2 _ _ h1, _, rfl, _, rfl, ⟨_, S2 _ _ h2⟩, fun D hD => ?_⟩
  have hd10 := ok.d10
  refine lc_fm walk_IL (fun i => some (.str (SX.S (Vbndal.decimalBytes (tb.deck.getD i 0))))) hD (by rw [nI_len]; omega) (fun H3 s => s _ _ (S2 _ _ h2)) (fun i x H1 H' C C' hi s1 y s2 c c' => ?_) il_same fun H3 s3 e => ?_
  · obtain ⟨rfl, n, hn, rfl⟩ := y
    obtain ⟨m, hm, rfl⟩ := nI_get hn
    walk_at "r0"
    refine ⟨log_small (hd1000 m (mem_of_get hm)), ?_⟩
    have := c _ H' rfl (Same.refl _)
    rw [List.getD_eq_getElem?_getD, hm] at this
    rw [str_dec]
    exact this
  have S3 := S2.trans s3
  have e2 : H3 D = some (SL ((tb.deck.map Vbndal.decimalBytes).map SX.S)) := by
    rw [e, nI_len]
    have := range_map_get tb.deck 0 (fun x => V.str (SX.S (Vbndal.decimalBytes x)))
    rw [List.filterMap_eq_map', this]
    unfold SL
    rw [List.map_map, List.map_map]
    rfl
  refine ⟨D, rfl, _, s3 _ _ upd_same, _, e2, by rw [List.length_map, List.length_map, sizeLine_eq]; simp; omega, fun p3 hp3 => ?_⟩
  have hw3 : ∀ x ∈ Vbndal.toBytes "deck" :: tb.deck.map Vbndal.decimalBytes, x.length ≤ 100 := fun x hx => by
    rcases List.mem_cons.mp hx with rfl | hx
    · decide
    · obtain ⟨c, hc, rfl⟩ := List.mem_map.mp hx
      have := Cm.dec_len _ (hd1000 c hc)
      omega
  refine ⟨p3, Vbndal.toBytes "deck" :: tb.deck.map Vbndal.decimalBytes, rfl, by rw [upd_same, str_S]; rfl, by rw [List.length_cons, List.length_map]; omega, hw3, fun H4 b4 s4 hb4 => ?_⟩
  have hl4 := Cm.line_len hw3
  have T4 := (s3.trans (Same.new hp3)).trans s4
  have S4 := S2.trans T4
  refine ⟨b1, rfl, b4, rfl, _, T4 _ _ (Same.new hp2 _ _ hb1), _, hb4, ?_, fun p5 hp5 => ?_⟩
  · rw [nI_len, nI_len, sizeLine_eq]
    rw [List.length_cons, List.length_map] at hl4
    simp at hl1
    omega
  have S5 := S4.trans (Same.new (o := IL (nI (Vbndal.printLine [Vbndal.toBytes "prime", Vbndal.decimalBytes tb.prime]) ++ nI (Vbndal.printLine (Vbndal.toBytes "deck" :: tb.deck.map Vbndal.decimalBytes)))) hp5)
  refine ⟨_, _, S5 _ _ h1, _, rfl, _, rfl, ⟨_, S5 _ _ h3⟩, ?_⟩
  have hlb : (Vbndal.printLine [Vbndal.toBytes "prime", Vbndal.decimalBytes tb.prime] ++ Vbndal.printLine (Vbndal.toBytes "deck" :: tb.deck.map Vbndal.decimalBytes)).length ≤ 1500 := by
    rw [List.length_cons, List.length_map] at hl4
    rw [List.length_append]
    simp at hl1
    omega
  have he : Vbndal.printTable tb = (Vbndal.printLine [Vbndal.toBytes "prime", Vbndal.decimalBytes tb.prime] ++ Vbndal.printLine (Vbndal.toBytes "deck" :: tb.deck.map Vbndal.decimalBytes)) ++ tb.players.flatMap fun y => Vbndal.printLine [Vbndal.toBytes "player", y.name, Vbndal.toBytes "key", Vbndal.decimalBytes y.key] := by
    rw [List.append_assoc]
    rfl
  rw [he] at q
  have hp5v : (upd H4 p5 (IL (nI (Vbndal.printLine [Vbndal.toBytes "prime", Vbndal.decimalBytes tb.prime]) ++ nI (Vbndal.printLine (Vbndal.toBytes "deck" :: tb.deck.map Vbndal.decimalBytes))))) p5 = some (IL (nI (Vbndal.printLine [Vbndal.toBytes "prime", Vbndal.decimalBytes tb.prime] ++ Vbndal.printLine (Vbndal.toBytes "deck" :: tb.deck.map Vbndal.decimalBytes)))) := by
    rw [upd_same]
    unfold nI
    rw [List.map_append]
  generalize upd H4 p5 (IL (nI (Vbndal.printLine [Vbndal.toBytes "prime", Vbndal.decimalBytes tb.prime]) ++ nI (Vbndal.printLine (Vbndal.toBytes "deck" :: tb.deck.map Vbndal.decimalBytes)))) = H5 at S5 hp5v ⊢
  generalize Vbndal.printLine [Vbndal.toBytes "prime", Vbndal.decimalBytes tb.prime] ++ Vbndal.printLine (Vbndal.toBytes "deck" :: tb.deck.map Vbndal.decimalBytes) = B at q hp5v hlb
  have hlen := paired_len h4
  have hp4 := ok.p4
  refine for_w walk_RL (WTx A a B tb H) ⟨S5, p5, none, rfl, by rw [List.take_zero]; simpa using hp5v, by simpa using hlb⟩ (fun j σ H' _ hh => hh.s _ _ h3) (fun j x σ H6 H7 hlt hh y => ?_) fun σ H6 hh => ?_
  · obtain ⟨rfl, n, hn, rfl⟩ := y
    obtain ⟨S6, sa, v, rfl, hsa, hsl⟩ := hh
    obtain ⟨y, hy⟩ : ∃ y, tb.players[j]? = some y := ⟨tb.players[j]'(by omega), List.getElem?_eq_getElem (by omega)⟩
    obtain ⟨dy, na, g1, g2⟩ := paired_get h4 hn hy
    have g1' := S6 _ _ g1
    have hT : nI (B ++ (tb.players.take j).flatMap lineP) = nI (B ++ (tb.players.take j).flatMap lineP) := rfl
    generalize hC : B ++ (tb.players.take j).flatMap lineP = C at hsa hsl hT
    have hn8 := (ok.names y (mem_of_get hy)).most
    have hk1000 : y.key < 1000 := by have := (ok.keys y (mem_of_get hy)).hi; have := ok.hP.hi; omega
    have hsz : (C ++ Vbndal.toBytes "player ").length ≤ 1507 + 500 * j := by rw [List.length_append, show (Vbndal.toBytes "player ").length = 7 by decide]; omega
    have hsz2 : (C ++ Vbndal.toBytes "player " ++ y.name).length ≤ 1515 + 500 * j := by rw [List.length_append]; omega
    have hsz3 : (C ++ Vbndal.toBytes "player " ++ y.name ++ Vbndal.toBytes " ").length ≤ 1516 + 500 * j := by rw [List.length_append, show (Vbndal.toBytes " ").length = 1 by decide]; omega
    walk_at "r0"
    refine ⟨by rw [str_S, str_S, SX.S_len, SX.S_len, sizeLine_eq]; decide, ?_⟩
    rw [show Str.ofString "player" ++ Str.ofString " " = Str.ofString "player " by rw [str_S, str_S, str_S, SX.S_cat]; rfl]
    refine sgn_of "player " (by decide) fun H8 b8 s8 hb8 _ => ?_
    refine ⟨b8, rfl, _, s8 _ _ hsa, _, hb8, by rw [nI_len, nI_len, ← List.length_append, sizeLine_eq]; omega, fun p8 hp8 => ?_⟩
    rw [← nI_app]
    have S8 := s8.trans (Same.new (o := IL (nI (C ++ Vbndal.toBytes "player "))) hp8)
    refine ⟨_, _, S8 _ _ g1', _, rfl, _, rfl, _, S8 _ _ (S6 _ _ g2), by rw [nI_len, nI_len, ← List.length_append, sizeLine_eq]; omega, fun p9 hp9 => ?_⟩
    rw [← nI_app]
    have S9 := S8.trans (Same.new (o := IL (nI (C ++ Vbndal.toBytes "player " ++ y.name))) hp9)
    refine sgn_of " " (by decide) fun H10 b10 s10 hb10 _ => ?_
    refine ⟨b10, rfl, _, s10 _ _ upd_same, _, hb10, by rw [nI_len, nI_len, ← List.length_append, sizeLine_eq]; omega, fun p11 hp11 => ?_⟩
    rw [← nI_app]
    have S11 := (S9.trans s10).trans (Same.new (o := IL (nI (C ++ Vbndal.toBytes "player " ++ y.name ++ Vbndal.toBytes " "))) hp11)
    refine ⟨_, _, S11 _ _ g1', _, rfl, ?_⟩
    refine ⟨_, rfl, log_small hk1000, fun p12 hp12 => ?_⟩
    have hw4 : ∀ x ∈ [Vbndal.toBytes "key", Vbndal.decimalBytes y.key], x.length ≤ 100 := fun x hx => by
      rcases List.mem_cons.mp hx with rfl | hx
      · decide
      · rw [List.mem_singleton.mp hx]
        have := Cm.dec_len _ hk1000
        omega
    have hl5 := Cm.line_len hw4
    have hl5 : (Vbndal.printLine [Vbndal.toBytes "key", Vbndal.decimalBytes y.key]).length ≤ 204 := by simpa using hl5
    refine ⟨p12, [Vbndal.toBytes "key", Vbndal.decimalBytes y.key], rfl, by rw [upd_same, str_S, str_dec]; rfl, by simp, hw4, fun H13 b13 s13 hb13 => ?_⟩
    refine ⟨b13, rfl, _, ((Same.new hp12).trans s13) _ _ upd_same, _, hb13, by rw [nI_len, nI_len, sizeLine_eq]; omega, fun p14 hp14 => ?_⟩
    rw [← nI_app]
    have e9 : C ++ Vbndal.toBytes "player " ++ y.name ++ Vbndal.toBytes " " ++ Vbndal.printLine [Vbndal.toBytes "key", Vbndal.decimalBytes y.key] = B ++ (tb.players.take (j + 1)).flatMap lineP := by
      rw [take_more hy, List.flatMap_append, ← List.append_assoc, hC, List.flatMap_singleton]
      unfold lineP
      rw [Cm.pl_player, show Vbndal.toBytes " " = [32] by decide]
      simp only [List.append_assoc]
    refine ⟨((((S6.trans S11).trans (Same.new hp12)).trans s13)).trans (Same.new hp14), p14, _, rfl, ?_, ?_⟩
    · rw [upd_same, e9]
    · rw [← e9, List.length_append]
      omega
  · obtain ⟨S6, sa, v, rfl, hsa, hsl⟩ := hh
    walk_at "r0"
    rw [hlen, List.take_length] at hsa hsl
    exact q _ _ S6 hsa (Nat.le_trans (m := 1500 + 500 * tb.players.length) (by exact hlen ▸ hsl) (by omega))
def sp_keysof (A : Ads) : Sp := fun vs H Q _ => ∃ (a : Addr) (tb : Vbndal.Table), vs = [.ref a] ∧ TbAt A H a tb ∧ TOk tb ∧ ∀ H' b, Same H H' → H' b = some (IL (nI (tb.players.map fun y => y.key))) → Q (.ref b) H'
theorem fn_keys_of (T : Txt K mg A) : FnAt P w K mg base CX0 1 "keys_of" ["table"] (sp_keysof A) := by
  refine T.d_keys_of.fn sc_keys_of (fun vs H Q E h => by obtain ⟨_, _, rfl, _⟩ := h; rfl) (fun f cdv Ar outer s H vs Q E hr h => ⟨_, (pss_one (ps_ret (pe_lc (own := [("player", 1)]) (g := gName 1) (tt := tYes) rfl sc_keys_of.nd (pi_RL K (pe_fldT T.c_Table.cl T.n_Table_players (pv 0) rfl)) (blkOk_by (N := ["table", "player"]) (sc := defScope s_keys_of) (by decide +kernel)) (fun _ _ _ _ _ => (pg_name (i := 1) sc_keys_of.nd rfl (Or.inl rfl))) (fun _ _ _ _ _ => pts_nil) (fun _ _ _ _ _ => (pe_fldT T.c_Player.cl T.n_Player_key (pv 1) rfl))))), ?_⟩)
  obtain ⟨a, tb, rfl, ⟨dx, da, la, as, h1, h2, h3, h4⟩, ok, q⟩ := h
  walk_at "rd"
  intro D hD
  have hlen := paired_len h4
  have hp4 := ok.p4
  refine lc_mp walk_RL (fun i => ((tb.players.map fun y => y.key).getD i 0 : Nat)) hD (by omega) (fun H1 s => s _ _ h3) (fun i x H1 H' C hi s1 y s2 c => ?_) rl_same fun H1 s1 e => ?_
  · obtain ⟨rfl, n, hn, rfl⟩ := y
    obtain ⟨y, hy⟩ : ∃ y, tb.players[i]? = some y := ⟨tb.players[i]'(by omega), List.getElem?_eq_getElem (by omega)⟩
    obtain ⟨dy, na, g1, g2⟩ := paired_get h4 hn hy
    have g1' := s2 _ _ g1
    walk_at "r0"
    refine ⟨_, _, g1', _, rfl, ?_⟩
    have := c H' (Same.refl _)
    have e : (tb.players.map fun y => y.key).getD i 0 = y.key := by
      rw [List.getD_eq_getElem?_getD, List.getElem?_map, hy]
      rfl
    rw [e] at this
    exact this
  · refine q _ _ s1 ?_
    rw [e]
    have := range_map_get (tb.players.map fun y => y.key) 0 (fun x => ((x : Nat) : Int))
    rw [List.length_map, ← hlen] at this
    rw [this]
    rfl
end
end Cl
set_option Elab.async false
set_option linter.all false
set_option maxRecDepth 100000
set_option maxHeartbeats 4000000
namespace Cl
open PySem PySem.Spec PyProof.Rows L2
local macro_rules | `(tactic| walk_at "rd") => `(tactic| try simp only [tSeq, tAsg, tVar, tC, tOp, tTest, tIfS, tNext, tRet, tDrop, gName, rI0, rI, rU, tUn, rEq_int, rNe_int, tFn, tFnS, tCons, tNil, tChain, tAndV, tOrV, tNotV, tAnd, tOr, tNot, tB, tIf, L2.start, tFor_eq, tLc_eq, iIL, iRL, iRng1, iRng2, iRng3, iEnR, iEnI, iZpR, iZpI, iStr, iTup, rIxI, rIxR, rIxRL, rIxK, rSlI, tSl, tNoPart, tPart, rInI, rNotInI, rInK, rInT, rInF, rInL, rLenI, rLenR, rLenA, rListI, rSortI', rAllB, rEqI, rNeI, rCatI, rCatS, tLM, rAppI, rAppR, rExtI, rIdxI, tLstI, tLstS, tFldT, sFldT, gUnI, gUnR, gTupT, gCons, gNil, sAugT, tTup, tLst, tCB, tAug, ipI, tPar, tM1, tMth, tMk, tRz, tRangeL, tYes, allInts, tupInts, allStrs, tupStrs, L2.rIsN, tIsN, rgV,
  List.map_cons, List.map_nil, List.length_cons, List.length_nil, Nat.zero_add, Nat.reduceAdd, Nat.reduceSub, Nat.reduceLeDiff, Nat.sub_zero, List.replicate_succ, List.replicate_zero, List.cons_append, List.nil_append, List.append_nil, List.set_cons_zero, List.set_cons_succ, List.getElem?_cons_zero, List.getElem?_cons_succ, Option.some.injEq, exists_and_left, exists_and_right, exists_eq_left', exists_eq_left, ex_il, ex_rl, ex_sl, lk_tok1, lk_tok2, lk_tok3, lk_tok4, lk_rdr1, lk_rdr2, lk_rdr3, lk_rdr4, lk_rdr5, lk_ply1, lk_ply2, lk_tbl1, lk_tbl2, lk_tbl3, lk_cal1, lk_cal2, lk_cal3, lk_dsk1, lk_dsk2, lk_dsk3, pt_rdr2, pt_dsk2, len_rdr, len_dsk, Nat.reduceLT, HO.lst.injEq, Int.zero_add, exists_eq, exists_eq', V.int.injEq, V.ref.injEq, V.bl.injEq, V.str.injEq, List.cons.injEq, HO.ins.injEq, HO.tup.injEq, il_inj, rl_inj, sl_inj, bl_inj, and_assoc, true_and, and_true, decide_eq_true_eq, Bool.not_eq_true', decide_eq_false_iff_not, reduceCtorEq, upd_same, upd_old, Option.isSome_some, Option.isSome_none, ite_true, ite_false, wipe, *])
local macro_rules | `(tactic| walk_at "r0") => `(tactic| try simp only [tSeq, tAsg, tVar, tC, tOp, tTest, tIfS, tNext, tRet, tDrop, gName, rI0, rI, rU, tUn, rEq_int, rNe_int, tFn, tFnS, tCons, tNil, tChain, tAndV, tOrV, tNotV, tAnd, tOr, tNot, tB, tIf, L2.start, tFor_eq, tLc_eq, iIL, iRL, iRng1, iRng2, iRng3, iEnR, iEnI, iZpR, iZpI, iStr, iTup, rIxI, rIxR, rIxRL, rIxK, rSlI, tSl, tNoPart, tPart, rInI, rNotInI, rInK, rInT, rInF, rInL, rLenI, rLenR, rLenA, rListI, rSortI', rAllB, rEqI, rNeI, rCatI, rCatS, tLM, rAppI, rAppR, rExtI, rIdxI, tLstI, tLstS, tFldT, sFldT, gUnI, gUnR, gTupT, gCons, gNil, sAugT, tTup, tLst, tCB, tAug, ipI, tPar, tM1, tMth, tMk, tRz, tRangeL, tYes, allInts, tupInts, allStrs, tupStrs, L2.rIsN, tIsN, rgV,
  List.map_cons, List.map_nil, List.length_cons, List.length_nil, Nat.zero_add, Nat.reduceAdd, Nat.reduceSub, Nat.reduceLeDiff, Nat.sub_zero, List.replicate_succ, List.replicate_zero, List.cons_append, List.nil_append, List.append_nil, List.set_cons_zero, List.set_cons_succ, List.getElem?_cons_zero, List.getElem?_cons_succ, Option.some.injEq, exists_and_left, exists_and_right, exists_eq_left', exists_eq_left, ex_il, ex_rl, ex_sl, lk_tok1, lk_tok2, lk_tok3, lk_tok4, lk_rdr1, lk_rdr2, lk_rdr3, lk_rdr4, lk_rdr5, lk_ply1, lk_ply2, lk_tbl1, lk_tbl2, lk_tbl3, lk_cal1, lk_cal2, lk_cal3, lk_dsk1, lk_dsk2, lk_dsk3, pt_rdr2, pt_dsk2, len_rdr, len_dsk, Nat.reduceLT, HO.lst.injEq, Int.zero_add, exists_eq, exists_eq', V.int.injEq, V.ref.injEq, V.bl.injEq, V.str.injEq, List.cons.injEq, HO.ins.injEq, HO.tup.injEq, il_inj, rl_inj, sl_inj, bl_inj, and_assoc, true_and, and_true, decide_eq_true_eq, Bool.not_eq_true', decide_eq_false_iff_not, reduceCtorEq, upd_same, upd_old, Option.isSome_some, Option.isSome_none, ite_true, ite_false, wipe])
section
variable {P : Program} {w : World} {K : PySem.W.Frag} {mg : Str → Option Value} {base : Heap} {A : Ads}
/-! ### deeds -/
open Vbndal (executeOnTable isCardArgument isKeyArgument isRowArgument isCardList isOrderArgument inRange)
/-- an answer is handed back behind its 0, or told by a refusal -/
def Ans (A : Ads) (H : Hp) (ans : List Int) (Q : VK) (E : XK) : Prop := (∀ r H' b, ans = 0 :: r → Same H H' → H' b = some (IL r) → r.length ≤ 5000 → Q (.ref b) H') ∧ (∀ c, c ≠ 0 → ans = [c] → RefE A c H E)
theorem Ans.no {A : Ads} {H : Hp} {ans : List Int} {Q : VK} {E : XK} {c : Int} (h : Ans A H ans Q E) (e : ans = [c]) (hc : c ≠ 0) : RefE A c H E := h.2 c hc e
theorem Ans.out {A : Ads} {H H' : Hp} {ans r : List Int} {Q : VK} {E : XK} {b : Addr} (h : Ans A H ans Q E) (e : ans = 0 :: r) (s : Same H H') (hb : H' b = some (IL r)) (hl : r.length ≤ 5000) : Q (.ref b) H' := h.1 r H' b e s hb hl
theorem ca_arg (t : Vbndal.Table) (hP : Cm.Pr t.prime) (x : Int) : isCardArgument t x = isCa t.prime x := by
  unfold isCardArgument inRange isCa Vbndal.isCard isSq Vbndal.subgroupOrder
  by_cases h : 2 ≤ x ∧ x < (t.prime : Int)
  · rw [decide_eq_true h.1, decide_eq_true (by omega : x ≤ (t.prime : Int) - 1), decide_eq_true h, decide_eq_true (by omega : 2 ≤ x.toNat ∧ x.toNat < t.prime)]
    simp only [Bool.true_and]
    exact Bool.beq_eq_decide_eq _ _
  · rw [decide_eq_false h, Bool.false_and]
    rcases Classical.not_and_iff_not_or_not.mp h with z | z
    · rw [decide_eq_false z]
      rfl
    · rw [decide_eq_false (by omega : ¬ x ≤ (t.prime : Int) - 1)]
      simp
theorem ke_arg (t : Vbndal.Table) (x : Int) : isKeyArgument t x = isKe t.prime x := by
  unfold isKeyArgument inRange isKe Vbndal.subgroupOrder
  rw [← Bool.decide_and]
  exact decide_eq_decide.mpr (by omega)
def spD (A : Ads) (ok : List Int → List (List Int) → Vbndal.Call → Prop) : Sp := fun vs H Q E => ∃ (t n rs : Addr) (tb : Vbndal.Table) (ns : List Int) (as : List Addr) (ls : List (List Int)) (c : Vbndal.Call), vs = [.ref t, .ref n, .ref rs] ∧ TbAt A H t tb ∧ TOk tb ∧ H n = some (IL ns) ∧ H rs = some (RL as) ∧ Paired (fun a l => H a = some (IL l)) as ls ∧ (∀ l ∈ ls, l.length ≤ 60) ∧ ok ns ls c ∧ Ans A H (executeOnTable (some tb) tb c).2 Q E
theorem nats_nI (l : List Nat) : Vbndal.toNats (nI l) = l := by
  unfold Vbndal.toNats nI
  rw [List.map_map]
  exact List.map_id' l
theorem ints_nI (l : List Nat) : Vbndal.toInts l = nI l := rfl
theorem all_nats {f : Int → Bool} (hf : ∀ x, f x = true → ∃ n : Nat, x = n) : ∀ {l : List Int}, l.all f = true → ∃ m, l = nI m
  | [], _ => ⟨[], rfl⟩
  | x :: l, h => by
    rw [List.all_cons, Bool.and_eq_true] at h
    obtain ⟨m, hm⟩ := all_nats hf h.2
    obtain ⟨n, rfl⟩ := hf x h.1
    exact ⟨n :: m, by rw [hm]; rfl⟩
theorem all_ca {p : Nat} (hP : Cm.Pr p) {l : List Int} (h : l.all (isCa p) = true) : ∃ m, l = nI m ∧ ∀ x ∈ m, Cm.IsC p x := by
  obtain ⟨m, rfl⟩ := all_nats (fun _ => isCa_nat) h
  refine ⟨m, rfl, fun x hx => ?_⟩
  have := List.all_eq_true.mp h x (nI_mem.mpr hx)
  rw [isCa_card hP] at this
  exact (Cm.isC_iff hP).mp this
theorem all_ke {p : Nat} {l : List Int} (h : l.all (isKe p) = true) : ∃ m, l = nI m ∧ ∀ x ∈ m, Cm.IsK p x := by
  obtain ⟨m, rfl⟩ := all_nats (fun _ => isKe_nat) h
  refine ⟨m, rfl, fun x hx => ?_⟩
  have := List.all_eq_true.mp h x (nI_mem.mpr hx)
  rw [isKe_key] at this
  exact Cm.isK_iff.mp this
theorem ke_of {p : Nat} {x : Int} (h : isKe p x = true) : ∃ k : Nat, x = k ∧ Cm.IsK p k := by
  obtain ⟨k, rfl⟩ := isKe_nat h
  rw [isKe_key] at h
  exact ⟨k, rfl, Cm.isK_iff.mp h⟩
theorem ca_of {p : Nat} (hP : Cm.Pr p) {x : Int} (h : isCa p x = true) : ∃ k : Nat, x = k ∧ Cm.IsC p k := by
  obtain ⟨k, rfl⟩ := isCa_nat h
  rw [isCa_card hP] at h
  exact ⟨k, rfl, (Cm.isC_iff hP).mp h⟩
theorem k_small {p k : Nat} (hP : Cm.Pr p) (h : Cm.IsK p k) : k < 1000 := by
  have := h.hi
  have := hP.hi
  omega
theorem all_arg (t : Vbndal.Table) (hP : Cm.Pr t.prime) (l : List Int) : l.all (isCardArgument t) = l.all (isCa t.prime) := by
  rw [show isCardArgument t = isCa t.prime from funext (ca_arg t hP)]
theorem allk_arg (t : Vbndal.Table) (l : List Int) : l.all (isKeyArgument t) = l.all (isKe t.prime) := by
  rw [show isKeyArgument t = isKe t.prime from funext (ke_arg t)]
theorem row_arg2 (t : Vbndal.Table) (hP : Cm.Pr t.prime) (l : List Int) : isRowArgument t l = rowB t.prime l := by
  unfold isRowArgument rowB
  rw [all_arg t hP, show Vbndal.maxCards = 10 from rfl, show (l.eraseDups.length == l.length) = decide l.Nodup by
    rw [Bool.beq_eq_decide_eq]
    exact decide_eq_decide.mpr (Cm.ed_nodup l)]
  cases decide (1 ≤ l.length ∧ l.length ≤ 10) <;> cases l.all (isCa t.prime) <;> cases decide l.Nodup <;> rfl
theorem list_arg (t : Vbndal.Table) (hP : Cm.Pr t.prime) (n : Nat) (l : List Int) : isCardList t n l = (decide (l.length = n) && l.all (isCa t.prime)) := by
  unfold isCardList
  rw [all_arg t hP, Bool.beq_eq_decide_eq]
theorem nodup_nI {m : List Nat} : (nI m).Nodup ↔ m.Nodup := by
  unfold nI List.Nodup
  rw [List.pairwise_map]
  constructor
  · exact fun h => h.imp fun z e => z (by rw [e])
  · exact fun h => h.imp fun z e => z (by omega)
theorem row_of {p : Nat} (hP : Cm.Pr p) {l : List Int} (h : rowB p l = true) : ∃ m, l = nI m ∧ (∀ x ∈ m, Cm.IsC p x) ∧ m.Nodup ∧ 1 ≤ m.length ∧ m.length ≤ 10 := by
  unfold rowB at h
  rw [Bool.and_eq_true, Bool.and_eq_true, decide_eq_true_eq, decide_eq_true_eq] at h
  obtain ⟨m, rfl, hm⟩ := all_ca hP h.2
  rw [nI_len] at h
  refine ⟨m, rfl, hm, ?_, h.1.1.1, h.1.1.2⟩
  exact nodup_nI.mp h.1.2
theorem order_of_b {n : Nat} {l : List Int} (h : orderB n l = true) : ∃ m, l = nI m ∧ m.Perm (List.range n) := by
  unfold orderB at h
  have hp := of_decide_eq_true h
  have : ∃ m, l = nI m := by
    refine all_nats (f := fun x => decide (0 ≤ x)) (fun x hx => ⟨x.toNat, by have := of_decide_eq_true hx; omega⟩) (List.all_eq_true.mpr fun x hx => decide_eq_true ?_)
    obtain ⟨k, _, rfl⟩ := List.mem_map.mp (hp.mem_iff.mp hx)
    omega
  obtain ⟨m, rfl⟩ := this
  exact ⟨m, rfl, nI_perm.mp hp⟩
theorem order_arg {n : Nat} (hn : n ≤ 10) (l : List Int) : isOrderArgument n l = orderB n l := by
  rw [Bool.eq_iff_iff]
  unfold isOrderArgument
  rw [Bool.and_eq_true, Cm.isOrder_iff]
  constructor
  · rintro ⟨h1, h2, h3⟩
    obtain ⟨m, rfl⟩ := all_nats (f := fun z => inRange z 0 9) (fun x hx => ⟨x.toNat, by
      unfold inRange at hx
      rw [Bool.and_eq_true, decide_eq_true_eq, decide_eq_true_eq] at hx
      omega⟩) h1
    rw [nats_nI] at h2 h3
    unfold orderB
    refine decide_eq_true (nI_perm.mpr (Cm.sub_perm List.nodup_range (fun x hx => h3 x (List.mem_range.mp hx)) (by rw [List.length_range]; omega)).symm)
  · intro h
    obtain ⟨m, rfl, hm⟩ := order_of_b h
    rw [nats_nI]
    refine ⟨List.all_eq_true.mpr fun x hx => ?_, by rw [hm.length_eq, List.length_range], fun i hi => hm.mem_iff.mpr (List.mem_range.mpr hi)⟩
    obtain ⟨k, hk, rfl⟩ := List.mem_map.mp hx
    have := List.mem_range.mp (hm.mem_iff.mp hk)
    unfold inRange
    rw [Bool.and_eq_true, decide_eq_true_eq, decide_eq_true_eq]
    omega
def ok2 (ns : List Int) (ls : List (List Int)) (c : Vbndal.Call) : Prop := c = .printTable
theorem fn_print_table (T : Txt K mg A) : FnF P w K mg base CX0 4 A.d0 ["table", "numbers", "rows"] (spD A ok2) := by
  refine T.d_print_table.fn sc_print_table (fun vs H Q E h => by obtain ⟨_, _, _, _, _, _, _, _, rfl, _⟩ := h; rfl) (fun f cdv Ar outer s H vs Q E hr h => ⟨_, (pss_one (ps_ret (pe_fn (fn_text_of T) (hr.mono (by decide)) pass0 (pa_cons (pv 0) pa_nil)))), ?_⟩)
  obtain ⟨t, n, rs, tb, ns, as, ls, c, rfl, hT, ok, hn, hrs, hp, hl, rfl, q⟩ := h
  walk_at "r0"
  refine ⟨t, tb, rfl, hT, ok, fun H' b s hb hlen => ?_⟩
  exact q.out rfl s hb (by rw [ints_nI, nI_len]; omega)
def ok3 (ns : List Int) (ls : List (List Int)) (c : Vbndal.Call) : Prop := c = .status
theorem fn_status (T : Txt K mg A) : FnF P w K mg base CX0 2 A.d1 ["table", "numbers", "rows"] (spD A ok3) := by
  refine T.d_status.fn sc_status (fun vs H Q E h => by obtain ⟨_, _, _, _, _, _, _, _, rfl, _⟩ := h; rfl) (fun f cdv Ar outer s H vs Q E hr h => ⟨_, (pss_one (ps_ret (pe_lstI (pa_cons (pe_fldT T.c_Table.cl T.n_Table_prime (pv 0) rfl) (pa_cons (pe_fn (fn_half_of T) (hr.mono (by decide)) pass0 (pa_cons (pe_fldT T.c_Table.cl T.n_Table_prime (pv 0) rfl) pa_nil)) (pa_cons (pe_callB len_I (by rfl) T.b_len (by decide +kernel) (pa_cons (pe_fldT T.c_Table.cl T.n_Table_deck (pv 0) rfl) pa_nil)) (pa_cons (pe_callB len_R (by rfl) T.b_len (by decide +kernel) (pa_cons (pe_fldT T.c_Table.cl T.n_Table_players (pv 0) rfl) pa_nil)) pa_nil))))))), ?_⟩)
  obtain ⟨t, n, rs, tb, ns, as, ls, c, rfl, hT, ok, hn, hrs, hp, hl, rfl, q⟩ := h
  obtain ⟨dx, da, la, ps, h1, h2, h3, h4⟩ := id hT
  walk_at "rd"
  refine ⟨tb.prime, rfl, by have := ok.hP.lo; omega, ?_⟩
  walk_at "rd"
  intro p hp
  refine q.out ?_ (Same.new hp) upd_same (by simp)
  rw [ok.hP.half, nI_len, paired_len h4]
  rfl
def ok4 (ns : List Int) (ls : List (List Int)) (c : Vbndal.Call) : Prop := c = .allCards
theorem fn_all_cards (T : Txt K mg A) : FnF P w K mg base CX0 5 A.d2 ["table", "numbers", "rows"] (spD A ok4) := by
  refine T.d_all_cards.fn sc_all_cards (fun vs H Q E h => by obtain ⟨_, _, _, _, _, _, _, _, rfl, _⟩ := h; rfl) (fun f cdv Ar outer s H vs Q E hr h => ⟨_, (pss_cons (ps_set (i := 3) sc_all_cards.nd rfl (.inl rfl) (pe_fn (fn_cards_of T) (hr.mono (by decide)) pass0 (pa_cons (pe_fldT T.c_Table.cl T.n_Table_prime (pv 0) rfl) pa_nil))) (pss_one (ps_ret (pe_op op_catI (pe_lstI (pa_cons (pe_callB len_I (by rfl) T.b_len (by decide +kernel) (pa_cons (pv 3) pa_nil)) pa_nil)) (pv 3))))), ?_⟩)
  obtain ⟨t, n, rs, tb, ns, as, ls, c, rfl, hT, ok, hn, hrs, hp, hl, rfl, q⟩ := h
  obtain ⟨dx, da, la, ps, h1, h2, h3, h4⟩ := id hT
  have hcl : (Vbndal.allCards tb.prime).length ≤ 1000 := by
    have := List.length_filter_le (Vbndal.isCard tb.prime) (List.range tb.prime)
    rw [List.length_range] at this
    have := ok.hP.hi
    unfold Vbndal.allCards
    omega
  walk_at "rd"
  refine ⟨tb.prime, rfl, ok.hP, fun H1 b s1 hb => ?_⟩
  refine ⟨b, rfl, _, hb, fun p hp => ⟨b, rfl, _, Same.new hp _ _ hb, by rw [nI_len, sizeLine_eq]; omega, fun p2 hp2 => ?_⟩⟩
  refine q.out ?_ ((s1.trans (Same.new hp)).trans (Same.new hp2)) upd_same (by rw [List.length_cons, nI_len]; omega)
  rw [nI_len]
  rfl
def ok5 (ns : List Int) (ls : List (List Int)) (c : Vbndal.Call) : Prop := ∃ x k, ns = [x, k] ∧ c = .lock x k
theorem fn_lock (T : Txt K mg A) : FnF P w K mg base (L2.CX P w) 5 A.d3 ["table", "numbers", "rows"] (spD A ok5) := by
  refine T.d_lock.fnX sc_lock (fun vs H Q E h => by obtain ⟨_, _, _, _, _, _, _, _, rfl, _⟩ := h; rfl) (fun f cdv Ar outer s H vs Q E hr h => ⟨_, (pss_cons (ps_asg (pv 1) (pg_unI (n := 2) rfl (pgs_cons (pg_name (i := 3) sc_lock.nd rfl (Or.inl rfl)) (pgs_cons (pg_name (i := 4) sc_lock.nd rfl (Or.inl rfl)) pgs_nil)))) (pss_cons (ps_expr (pe_fn (fn_check_card T) (hr.mono (by decide)) (passes_call (takes_of rfl rfl rfl rfl) (fun _ _ _ _ h => h)) (pa_cons (pv 3) (pa_cons (pv 0) pa_nil)))) (pss_cons (ps_expr (pe_fn (fn_check_key T) (hr.mono (by decide)) (passes_call (takes_of rfl rfl rfl rfl) (fun _ _ _ _ h => h)) (pa_cons (pv 4) (pa_cons (pv 0) pa_nil)))) (pss_one (ps_ret (pe_lstI (pa_cons (pe_fn (fn_locked T) (hr.mono (by decide)) pass0 (pa_cons (pv 3) (pa_cons (pv 4) (pa_cons (pe_fldT T.c_Table.cl T.n_Table_prime (pv 0) rfl) pa_nil)))) pa_nil))))))), ?_⟩)
  obtain ⟨t, n, rs, tb, ns, as, ls, c, rfl, hT, ok, hn, hrs, hp, hl, ⟨x, k, rfl, rfl⟩, q⟩ := h
  obtain ⟨dx, da, la, ps, h1, h2, h3, h4⟩ := id hT
  simp only [executeOnTable, ca_arg tb ok.hP, ke_arg] at q
  walk_at "rd"
  refine ⟨x, t, tb, rfl, hT, ok.hP, fun b1 => ⟨k, t, tb, rfl, hT, ok.hP, fun b2 => ?_, fun b2 => q.no (by simp [b2]) (by decide)⟩, fun b1 => q.no (by simp [b1]) (by decide)⟩
  obtain ⟨x, rfl, cx⟩ := ca_of ok.hP b1
  obtain ⟨k, rfl, ck⟩ := ke_of b2
  walk_at "rd"
  refine ⟨x, k, _, rfl, ok.hP, k_small ok.hP ck, ?_⟩
  walk_at "rd"
  intro p hp
  exact q.out (by simp [b1, b2]) (Same.new hp) upd_same (by simp)
def ok6 (ns : List Int) (ls : List (List Int)) (c : Vbndal.Call) : Prop := ∃ x k, ns = [x, k] ∧ c = .unlock x k
theorem fn_unlock (T : Txt K mg A) : FnF P w K mg base (L2.CX P w) 5 A.d4 ["table", "numbers", "rows"] (spD A ok6) := by
  refine T.d_unlock.fnX sc_unlock (fun vs H Q E h => by obtain ⟨_, _, _, _, _, _, _, _, rfl, _⟩ := h; rfl) (fun f cdv Ar outer s H vs Q E hr h => ⟨_, (pss_cons (ps_asg (pv 1) (pg_unI (n := 2) rfl (pgs_cons (pg_name (i := 3) sc_unlock.nd rfl (Or.inl rfl)) (pgs_cons (pg_name (i := 4) sc_unlock.nd rfl (Or.inl rfl)) pgs_nil)))) (pss_cons (ps_expr (pe_fn (fn_check_card T) (hr.mono (by decide)) (passes_call (takes_of rfl rfl rfl rfl) (fun _ _ _ _ h => h)) (pa_cons (pv 3) (pa_cons (pv 0) pa_nil)))) (pss_cons (ps_expr (pe_fn (fn_check_key T) (hr.mono (by decide)) (passes_call (takes_of rfl rfl rfl rfl) (fun _ _ _ _ h => h)) (pa_cons (pv 4) (pa_cons (pv 0) pa_nil)))) (pss_one (ps_ret (pe_lstI (pa_cons (pe_fn (fn_locked T) (hr.mono (by decide)) pass0 (pa_cons (pv 3) (pa_cons (pe_fn (fn_inverse_of T) (hr.mono (by decide)) pass0 (pa_cons (pv 4) (pa_cons (pe_fldT T.c_Table.cl T.n_Table_prime (pv 0) rfl) pa_nil))) (pa_cons (pe_fldT T.c_Table.cl T.n_Table_prime (pv 0) rfl) pa_nil)))) pa_nil))))))), ?_⟩)
  obtain ⟨t, n, rs, tb, ns, as, ls, c, rfl, hT, ok, hn, hrs, hp, hl, ⟨x, k, rfl, rfl⟩, q⟩ := h
  obtain ⟨dx, da, la, ps, h1, h2, h3, h4⟩ := id hT
  simp only [executeOnTable, ca_arg tb ok.hP, ke_arg] at q
  walk_at "rd"
  refine ⟨x, t, tb, rfl, hT, ok.hP, fun b1 => ⟨k, t, tb, rfl, hT, ok.hP, fun b2 => ?_, fun b2 => q.no (by simp [b2]) (by decide)⟩, fun b1 => q.no (by simp [b1]) (by decide)⟩
  obtain ⟨x, rfl, cx⟩ := ca_of ok.hP b1
  obtain ⟨k, rfl, ck⟩ := ke_of b2
  walk_at "rd"
  refine ⟨k, _, rfl, ok.hP, ck, ?_⟩
  walk_at "rd"
  refine ⟨x, _, _, rfl, ok.hP, k_small ok.hP (Cm.inv_isK ok.hP ck), ?_⟩
  walk_at "rd"
  intro p hp
  exact q.out (by simp [b1, b2]) (Same.new hp) upd_same (by simp)
def ok7 (ns : List Int) (ls : List (List Int)) (c : Vbndal.Call) : Prop := ∃ k, ns = [k] ∧ c = .inverseKey k
theorem fn_inverse_key (T : Txt K mg A) : FnF P w K mg base (L2.CX P w) 5 A.d5 ["table", "numbers", "rows"] (spD A ok7) := by
  refine T.d_inverse_key.fnX sc_inverse_key (fun vs H Q E h => by obtain ⟨_, _, _, _, _, _, _, _, rfl, _⟩ := h; rfl) (fun f cdv Ar outer s H vs Q E hr h => ⟨_, (pss_cons (ps_expr (pe_fn (fn_check_key T) (hr.mono (by decide)) (passes_call (takes_of rfl rfl rfl rfl) (fun _ _ _ _ h => h)) (pa_cons (pe_ix ix_I (pv 1) pe_int (fun _ _ => rfl)) (pa_cons (pv 0) pa_nil)))) (pss_one (ps_ret (pe_lstI (pa_cons (pe_fn (fn_inverse_of T) (hr.mono (by decide)) pass0 (pa_cons (pe_ix ix_I (pv 1) pe_int (fun _ _ => rfl)) (pa_cons (pe_fldT T.c_Table.cl T.n_Table_prime (pv 0) rfl) pa_nil))) pa_nil))))), ?_⟩)
  obtain ⟨t, n, rs, tb, ns, as, ls, c, rfl, hT, ok, hn, hrs, hp, hl, ⟨k, rfl, rfl⟩, q⟩ := h
  obtain ⟨dx, da, la, ps, h1, h2, h3, h4⟩ := id hT
  simp only [executeOnTable, ca_arg tb ok.hP, ke_arg] at q
  walk_at "rd"
  refine ⟨by decide, by decide, k, t, tb, rfl, hT, ok.hP, fun b2 => ?_, fun b2 => q.no (by simp [b2]) (by decide)⟩
  obtain ⟨k, rfl, ck⟩ := ke_of b2
  walk_at "rd"
  refine ⟨by decide, by decide, k, _, rfl, ok.hP, ck, rfl, fun p hp => ?_⟩
  exact q.out (by simp [b2]; rfl) (Same.new hp) upd_same (by show 1 ≤ 5000; decide)
def ok8 (ns : List Int) (ls : List (List Int)) (c : Vbndal.Call) : Prop := ∃ l, ls = [l] ∧ c = .jointKey l
theorem fn_joint_key (T : Txt K mg A) : FnF P w K mg base (L2.CX P w) 6 A.d6 ["table", "numbers", "rows"] (spD A ok8) := by
  refine T.d_joint_key.fnX sc_joint_key (fun vs H Q E h => by obtain ⟨_, _, _, _, _, _, _, _, rfl, _⟩ := h; rfl) (fun f cdv Ar outer s H vs Q E hr h => ⟨_, (pss_cons (ps_expr (pe_fn (fn_check_keys T) (hr.mono (by decide)) (passes_call (takes_of rfl rfl rfl rfl) (fun _ _ _ _ h => h)) (pa_cons (pe_ix ix_R (pv 2) pe_int (fun _ _ => rfl)) (pa_cons (pv 0) pa_nil)))) (pss_one (ps_ret (pe_lstI (pa_cons (pe_fn (fn_joint_of T) (hr.mono (by decide)) pass0 (pa_cons (pe_ix ix_R (pv 2) pe_int (fun _ _ => rfl)) (pa_cons (pe_fldT T.c_Table.cl T.n_Table_prime (pv 0) rfl) pa_nil))) pa_nil))))), ?_⟩)
  obtain ⟨t, n, rs, tb, ns, as, ls, c, rfl, hT, ok, hn, hrs, hp, hl, ⟨l, rfl, rfl⟩, q⟩ := h
  obtain ⟨dx, da, la, ps, h1, h2, h3, h4⟩ := id hT
  cases hp with
  | @cons a0 _ _ _ g1 g2 =>
  cases g2
  simp only [executeOnTable, allk_arg] at q
  walk_at "rd"
  refine ⟨by decide, by decide, a0, t, l, tb, rfl, g1, hT, ok.hP, fun b2 => ?_, fun b2 => q.no (by rw [b2]; rfl) (by decide)⟩
  have b3 := (Bool.and_eq_true_iff.mp b2).2
  obtain ⟨ks, rfl, hk⟩ := all_ke b3
  refine ⟨_, hrs, by decide, by simp, _, _, h1, _, rfl, a0, ks, _, rfl, ok.hP, g1, hk, rfl, fun p hp => ?_⟩
  refine q.out ?_ (Same.new hp) upd_same (by show 1 ≤ 5000; decide)
  rw [b2, nats_nI]
  rfl
def ok9 (ns : List Int) (ls : List (List Int)) (c : Vbndal.Call) : Prop := ∃ x y k, ns = [x, y, k] ∧ c = .checkLock x y k
theorem fn_check_lock (T : Txt K mg A) : FnF P w K mg base (L2.CX P w) 5 A.d7 ["table", "numbers", "rows"] (spD A ok9) := by
  refine T.d_check_lock.fnX sc_check_lock (fun vs H Q E h => by obtain ⟨_, _, _, _, _, _, _, _, rfl, _⟩ := h; rfl) (fun f cdv Ar outer s H vs Q E hr h => ⟨_, (pss_cons (ps_asg (pv 1) (pg_unI (n := 3) rfl (pgs_cons (pg_name (i := 3) sc_check_lock.nd rfl (Or.inl rfl)) (pgs_cons (pg_name (i := 4) sc_check_lock.nd rfl (Or.inl rfl)) (pgs_cons (pg_name (i := 5) sc_check_lock.nd rfl (Or.inl rfl)) pgs_nil))))) (pss_cons (ps_expr (pe_fn (fn_check_card T) (hr.mono (by decide)) (passes_call (takes_of rfl rfl rfl rfl) (fun _ _ _ _ h => h)) (pa_cons (pv 3) (pa_cons (pv 0) pa_nil)))) (pss_cons (ps_expr (pe_fn (fn_check_card T) (hr.mono (by decide)) (passes_call (takes_of rfl rfl rfl rfl) (fun _ _ _ _ h => h)) (pa_cons (pv 4) (pa_cons (pv 0) pa_nil)))) (pss_cons (ps_expr (pe_fn (fn_check_key T) (hr.mono (by decide)) (passes_call (takes_of rfl rfl rfl rfl) (fun _ _ _ _ h => h)) (pa_cons (pv 5) (pa_cons (pv 0) pa_nil)))) (pss_one (ps_ret (pe_lstI (pa_cons (pe_callTy call_int1 (by rfl) T.b_int (by decide +kernel) (pa_cons (pe_cmpR op_eq (pe_fn (fn_locked T) (hr.mono (by decide)) pass0 (pa_cons (pv 3) (pa_cons (pv 5) (pa_cons (pe_fldT T.c_Table.cl T.n_Table_prime (pv 0) rfl) pa_nil)))) (pv 4) (nomark _)) pa_nil)) pa_nil)))))))), ?_⟩)
  obtain ⟨t, n, rs, tb, ns, as, ls, c, rfl, hT, ok, hn, hrs, hp, hl, ⟨x, y, k, rfl, rfl⟩, q⟩ := h
  obtain ⟨dx, da, la, ps, h1, h2, h3, h4⟩ := id hT
  simp only [executeOnTable, ca_arg tb ok.hP, ke_arg] at q
  walk_at "rd"
  refine ⟨x, t, tb, rfl, hT, ok.hP, fun b1 => ⟨y, t, tb, rfl, hT, ok.hP, fun b2 => ⟨k, t, tb, rfl, hT, ok.hP, fun b3 => ?_, fun b3 => q.no (by simp [b3]) (by decide)⟩, fun b2 => q.no (by simp [b2]) (by decide)⟩, fun b1 => q.no (by simp [b1]) (by decide)⟩
  obtain ⟨x, rfl, cx⟩ := ca_of ok.hP b1
  obtain ⟨y, rfl, cy⟩ := ca_of ok.hP b2
  obtain ⟨k, rfl, ck⟩ := ke_of b3
  walk_at "rd"
  refine ⟨x, k, _, rfl, ok.hP, k_small ok.hP ck, ?_⟩
  walk_at "rd"
  refine .inr fun p hp => ?_
  refine q.out ?_ (Same.new hp) upd_same (by show 1 ≤ 5000; decide)
  have : ((Vbndal.lockCard tb.prime x k : Nat) : Int) = (y : Nat) ↔ Vbndal.locksTo tb.prime x y k = true := by
    unfold Vbndal.locksTo
    rw [beq_iff_eq]
    omega
  simp [b1, b2, b3, this]
def ok10 (ns : List Int) (ls : List (List Int)) (c : Vbndal.Call) : Prop := ∃ k l m, ns = [k] ∧ ls = [l, m] ∧ c = .shuffleRow k l m
theorem fn_shuffle_row (T : Txt K mg A) : FnF P w K mg base (L2.CX P w) 6 A.d8 ["table", "numbers", "rows"] (spD A ok10) := by
  refine T.d_shuffle_row.fnX sc_shuffle_row (fun vs H Q E h => by obtain ⟨_, _, _, _, _, _, _, _, rfl, _⟩ := h; rfl) (fun f cdv Ar outer s H vs Q E hr h => ⟨_, (pss_cons (ps_asg (pv 2) (pg_unR (n := 2) rfl (pgs_cons (pg_name (i := 3) sc_shuffle_row.nd rfl (Or.inl rfl)) (pgs_cons (pg_name (i := 4) sc_shuffle_row.nd rfl (Or.inl rfl)) pgs_nil)))) (pss_cons (ps_expr (pe_fn (fn_check_key T) (hr.mono (by decide)) (passes_call (takes_of rfl rfl rfl rfl) (fun _ _ _ _ h => h)) (pa_cons (pe_ix ix_I (pv 1) pe_int (fun _ _ => rfl)) (pa_cons (pv 0) pa_nil)))) (pss_cons (ps_expr (pe_fn (fn_check_row T) (hr.mono (by decide)) (passes_call (takes_of rfl rfl rfl rfl) (fun _ _ _ _ h => h)) (pa_cons (pv 3) (pa_cons (pv 0) pa_nil)))) (pss_cons (ps_expr (pe_fn (fn_check_order T) (hr.mono (by decide)) (passes_call (takes_of rfl rfl rfl rfl) (fun _ _ _ _ h => h)) (pa_cons (pv 4) (pa_cons (pe_callB len_I (by rfl) T.b_len (by decide +kernel) (pa_cons (pv 3) pa_nil)) pa_nil)))) (pss_one (ps_ret (pe_fn (fn_shuffled T) (hr.mono (by decide)) pass0 (pa_cons (pv 3) (pa_cons (pe_ix ix_I (pv 1) pe_int (fun _ _ => rfl)) (pa_cons (pv 4) (pa_cons (pe_fldT T.c_Table.cl T.n_Table_prime (pv 0) rfl) pa_nil))))))))))), ?_⟩)
  obtain ⟨t, n, rs, tb, ns, as, ls, c, rfl, hT, ok, hn, hrs, hp, hl, ⟨k, l, m, rfl, rfl, rfl⟩, q⟩ := h
  obtain ⟨dx, da, la, ps, h1, h2, h3, h4⟩ := id hT
  cases hp with
  | @cons a0 _ _ _ g1 g2 =>
  cases g2 with
  | @cons a1 _ _ _ g3 g4 =>
  cases g4
  have hl1 := hl l (by simp)
  have hl2 := hl m (by simp)
  simp only [executeOnTable, ke_arg, row_arg2 tb ok.hP] at q
  walk_at "rd"
  refine ⟨by decide, by decide, k, t, tb, rfl, hT, ok.hP, fun b1 => ?_, fun b1 => q.no (by simp [b1]) (by decide)⟩
  refine ⟨a0, t, l, tb, rfl, g1, by omega, hT, ok.hP, fun b2 H1 s1 => ?_, fun b2 => q.no (by simp [b2]) (by decide)⟩
  obtain ⟨k, rfl, ck⟩ := ke_of b1
  obtain ⟨l, rfl, hlc, hln, hl3, hl4⟩ := row_of ok.hP b2
  rw [nI_len, order_arg hl4] at q
  have g1' := s1 _ _ g1
  have g3' := s1 _ _ g3
  refine ⟨_, g1', a1, m, l.length, by rw [nI_len], g3', hl2, by omega, fun b3 H2 s2 => ?_, fun b3 => RefE.mono (q.no (by simp [b3]) (by decide)) s1⟩
  obtain ⟨m, rfl, hm⟩ := order_of_b b3
  have s12 := s1.trans s2
  rw [nI_len] at hl2
  refine ⟨_, s12 _ _ hn, by decide, by simp, _, _, s12 _ _ h1, _, rfl, a0, a1, l, m, k, tb.prime, rfl, ok.hP, k_small ok.hP ck, s12 _ _ g1, s12 _ _ g3, by omega, fun i hi => List.mem_range.mp (hm.mem_iff.mp hi), fun H3 b s3 hb => ?_⟩
  refine q.out ?_ (s12.trans s3) hb ?_
  · simp [b1, b2, b3, nats_nI, ints_nI]
  · unfold Vbndal.shuffled
    rw [nI_len, List.length_map]
    omega
theorem order_len {p k : Nat} {l r o : List Nat} (h : Vbndal.orderFor p l r k = some o) : o.length = l.length := by
  unfold Vbndal.orderFor at h
  simp only [] at h
  split at h
  · rename_i hh
    cases h
    exact (Cm.isOrder_iff.mp hh.2).1
  · cases h
def ok11 (ns : List Int) (ls : List (List Int)) (c : Vbndal.Call) : Prop := ∃ k l m, ns = [k] ∧ ls = [l, m] ∧ c = .checkShuffle k l m
theorem fn_check_shuffle (T : Txt K mg A) : FnF P w K mg base (L2.CX P w) 6 A.d9 ["table", "numbers", "rows"] (spD A ok11) := by
  refine T.d_check_shuffle.fnX sc_check_shuffle (fun vs H Q E h => by obtain ⟨_, _, _, _, _, _, _, _, rfl, _⟩ := h; rfl) (fun f cdv Ar outer s H vs Q E hr h => ⟨_, (pss_cons (ps_asg (pv 2) (pg_unR (n := 2) rfl (pgs_cons (pg_name (i := 3) sc_check_shuffle.nd rfl (Or.inl rfl)) (pgs_cons (pg_name (i := 4) sc_check_shuffle.nd rfl (Or.inl rfl)) pgs_nil)))) (pss_cons (ps_expr (pe_fn (fn_check_key T) (hr.mono (by decide)) (passes_call (takes_of rfl rfl rfl rfl) (fun _ _ _ _ h => h)) (pa_cons (pe_ix ix_I (pv 1) pe_int (fun _ _ => rfl)) (pa_cons (pv 0) pa_nil)))) (pss_cons (ps_expr (pe_fn (fn_check_row T) (hr.mono (by decide)) (passes_call (takes_of rfl rfl rfl rfl) (fun _ _ _ _ h => h)) (pa_cons (pv 3) (pa_cons (pv 0) pa_nil)))) (pss_cons (ps_expr (pe_fn (fn_check_cards T) (hr.mono (by decide)) (passes_call (takes_of rfl rfl rfl rfl) (fun _ _ _ _ h => h)) (pa_cons (pv 4) (pa_cons (pe_callB len_I (by rfl) T.b_len (by decide +kernel) (pa_cons (pv 3) pa_nil)) (pa_cons (pv 0) pa_nil))))) (pss_cons (ps_set (i := 5) sc_check_shuffle.nd rfl (.inl rfl) (pe_fn (fn_order_of T) (hr.mono (by decide)) pass0 (pa_cons (pv 3) (pa_cons (pe_ix ix_I (pv 1) pe_int (fun _ _ => rfl)) (pa_cons (pv 4) (pa_cons (pe_fldT T.c_Table.cl T.n_Table_prime (pv 0) rfl) pa_nil)))))) (pss_cons (ps_if (pt_cmpR op_isN1 (pv 5) pe_non (nomark _)) (pss_one (ps_ret (pe_lstI (pa_cons pe_int (pa_cons (pe_fn (fn_errors_of T) (hr.mono (by decide)) pass0 (pa_cons (pv 3) (pa_cons (pe_ix ix_I (pv 1) pe_int (fun _ _ => rfl)) (pa_cons (pv 4) (pa_cons (pe_fldT T.c_Table.cl T.n_Table_prime (pv 0) rfl) pa_nil))))) pa_nil))))) pss_nil) (pss_one (ps_ret (pe_op op_catI (pe_lstI (pa_cons pe_int pa_nil)) (pv 5)))))))))), ?_⟩)
  obtain ⟨t, n, rs, tb, ns, as, ls, c, rfl, hT, ok, hn, hrs, hp, hl, ⟨k, l, m, rfl, rfl, rfl⟩, q⟩ := h
  obtain ⟨dx, da, la, ps, h1, h2, h3, h4⟩ := id hT
  cases hp with
  | @cons a0 _ _ _ g1 g2 =>
  cases g2 with
  | @cons a1 _ _ _ g3 g4 =>
  cases g4
  have hl1 := hl l (by simp)
  have hl2 := hl m (by simp)
  simp only [executeOnTable, ke_arg, row_arg2 tb ok.hP, list_arg tb ok.hP] at q
  walk_at "rd"
  refine ⟨by decide, by decide, k, t, tb, rfl, hT, ok.hP, fun b1 => ?_, fun b1 => q.no (by simp [b1]) (by decide)⟩
  refine ⟨a0, t, l, tb, rfl, g1, by omega, hT, ok.hP, fun b2 H1 s1 => ?_, fun b2 => q.no (by simp [b2]) (by decide)⟩
  obtain ⟨k, rfl, ck⟩ := ke_of b1
  obtain ⟨l, rfl, hlc, hln, hl3, hl4⟩ := row_of ok.hP b2
  have g1' := s1 _ _ g1
  have g3' := s1 _ _ g3
  refine ⟨_, g1', a1, t, m, l.length, tb, by rw [nI_len], g3', hT.mono s1, ok.hP, fun b3 => ?_, fun b3 => RefE.mono (q.no (by rw [← nI_len l] at b3; rw [b1, b2, b3]; rfl) (by decide)) s1⟩
  rw [Bool.and_eq_true, decide_eq_true_eq] at b3
  obtain ⟨b4, b5⟩ := b3
  obtain ⟨r, rfl, hrc⟩ := all_ca ok.hP b5
  have b4' : (nI r).length = (nI l).length := by rw [b4, nI_len]
  rw [nI_len] at b4
  have hro : RowOk tb.prime k l r := ⟨ok.hP, ck, Cm.lock_nodup ok.hP ck hlc hln, by omega, b4⟩
  simp only [b1, b2, b4', b5, decide_true, Bool.and_true, nats_nI, ints_nI, Int.toNat_natCast] at q
  refine ⟨_, s1 _ _ hn, by decide, by simp, _, _, s1 _ _ h1, _, rfl, a0, a1, l, r, k, tb.prime, rfl, hro, g1', g3', fun o ho H2 c s2 hc => ?_, fun ho H2 s2 => ?_⟩
  · dsimp only
    rw [if_neg (fun z => nomatch z)]
    intro p hp
    have hol := order_len ho
    refine ⟨c, rfl, _, Same.new hp _ _ hc, by rw [nI_len, sizeLine_eq]; omega, fun p2 hp2 => ?_⟩
    refine q.out ?_ (((s1.trans s2).trans (Same.new hp)).trans (Same.new hp2)) upd_same (by rw [List.length_cons, nI_len]; omega)
    rw [ho]
    rfl
  · dsimp only
    rw [if_pos rfl]
    have s12 := s1.trans s2
    refine ⟨_, s12 _ _ hn, by decide, by simp, _, _, s12 _ _ h1, _, rfl, a0, a1, l, r, k, tb.prime, rfl, hro, s2 _ _ g1', s2 _ _ g3', fun H3 s3 => ⟨rfl, fun p hp => ?_⟩⟩
    refine q.out ?_ ((s12.trans s3).trans (Same.new hp)) upd_same (by show 2 ≤ 5000; decide)
    rw [ho]
    rfl
def ok12 (ns : List Int) (ls : List (List Int)) (c : Vbndal.Call) : Prop := ∃ k l, ns = [k] ∧ ls = [l] ∧ c = .checkSymmetry k l
theorem fn_check_symmetry (T : Txt K mg A) : FnF P w K mg base (L2.CX P w) 6 A.d10 ["table", "numbers", "rows"] (spD A ok12) := by
  refine T.d_check_symmetry.fnX sc_check_symmetry (fun vs H Q E h => by obtain ⟨_, _, _, _, _, _, _, _, rfl, _⟩ := h; rfl) (fun f cdv Ar outer s H vs Q E hr h => ⟨_, (pss_cons (ps_set (i := 3) sc_check_symmetry.nd rfl (.inl rfl) (pe_ix ix_R (pv 2) pe_int (fun _ _ => rfl))) (pss_cons (ps_expr (pe_fn (fn_check_key T) (hr.mono (by decide)) (passes_call (takes_of rfl rfl rfl rfl) (fun _ _ _ _ h => h)) (pa_cons (pe_ix ix_I (pv 1) pe_int (fun _ _ => rfl)) (pa_cons (pv 0) pa_nil)))) (pss_cons (ps_expr (pe_fn (fn_check_row T) (hr.mono (by decide)) (passes_call (takes_of rfl rfl rfl rfl) (fun _ _ _ _ h => h)) (pa_cons (pv 3) (pa_cons (pv 0) pa_nil)))) (pss_cons (ps_set (i := 4) sc_check_symmetry.nd rfl (.inl rfl) (pe_fn (fn_order_of T) (hr.mono (by decide)) pass0 (pa_cons (pv 3) (pa_cons (pe_ix ix_I (pv 1) pe_int (fun _ _ => rfl)) (pa_cons (pv 3) (pa_cons (pe_fldT T.c_Table.cl T.n_Table_prime (pv 0) rfl) pa_nil)))))) (pss_one (ps_ret (pe_ifExp (pt_cmpR op_isN1 (pv 4) pe_non (nomark _)) (pe_lstI (pa_cons pe_int pa_nil)) (pe_op op_catI (pe_lstI (pa_cons pe_int pa_nil)) (pv 4))))))))), ?_⟩)
  obtain ⟨t, n, rs, tb, ns, as, ls, c, rfl, hT, ok, hn, hrs, hp, hl, ⟨k, l, rfl, rfl, rfl⟩, q⟩ := h
  obtain ⟨dx, da, la, ps, h1, h2, h3, h4⟩ := id hT
  cases hp with
  | @cons a0 _ _ _ g1 g2 =>
  cases g2
  have hl1 := hl l (by simp)
  simp only [executeOnTable, ke_arg, row_arg2 tb ok.hP, list_arg tb ok.hP] at q
  walk_at "rd"
  refine ⟨by decide, by decide, by decide, by decide, k, t, tb, rfl, hT, ok.hP, fun b1 => ?_, fun b1 => q.no (by simp [b1]) (by decide)⟩
  refine ⟨a0, t, l, tb, rfl, g1, by omega, hT, ok.hP, fun b2 H1 s1 => ?_, fun b2 => q.no (by simp [b2]) (by decide)⟩
  obtain ⟨k, rfl, ck⟩ := ke_of b1
  obtain ⟨l, rfl, hlc, hln, hl3, hl4⟩ := row_of ok.hP b2
  have g1' := s1 _ _ g1
  have hro : RowOk tb.prime k l l := ⟨ok.hP, ck, Cm.lock_nodup ok.hP ck hlc hln, by omega, rfl⟩
  simp only [b1, b2, Bool.and_true, nats_nI, ints_nI, Int.toNat_natCast, Vbndal.symmetryOrder] at q
  refine ⟨_, s1 _ _ hn, by decide, by simp, _, _, s1 _ _ h1, _, rfl, a0, a0, l, l, k, tb.prime, rfl, hro, g1', g1', fun o ho H2 c s2 hc => ?_, fun ho H2 s2 => ?_⟩
  · dsimp only
    rw [if_neg (fun z => nomatch z)]
    intro p hp
    have hol := order_len ho
    refine ⟨c, rfl, _, Same.new hp _ _ hc, by rw [nI_len, sizeLine_eq]; omega, fun p2 hp2 => ?_⟩
    refine q.out ?_ (((s1.trans s2).trans (Same.new hp)).trans (Same.new hp2)) upd_same (by rw [List.length_cons, nI_len]; omega)
    rw [ho]
    rfl
  · dsimp only
    rw [if_pos rfl]
    intro p hp
    refine q.out ?_ ((s1.trans s2).trans (Same.new hp)) upd_same (by show 1 ≤ 5000; decide)
    rw [ho]
    rfl
end
end Cl
set_option Elab.async false
set_option linter.all false
set_option maxRecDepth 100000
set_option maxHeartbeats 4000000
namespace Cl
open PySem PySem.Spec PyProof.Rows L2
local macro_rules | `(tactic| walk_at "rd") => `(tactic| try simp only [tSeq, tAsg, tVar, tC, tOp, tTest, tIfS, tNext, tRet, tDrop, gName, rI0, rI, rU, tUn, rEq_int, rNe_int, tFn, tFnS, tCons, tNil, tChain, tAndV, tOrV, tNotV, tAnd, tOr, tNot, tB, tIf, L2.start, tFor_eq, tLc_eq, iIL, iRL, iRng1, iRng2, iRng3, iEnR, iEnI, iZpR, iZpI, iStr, iTup, rIxI, rIxR, rIxRL, rIxK, rSlI, tSl, tNoPart, tPart, rInI, rNotInI, rInK, rInT, rInF, rInL, rLenI, rLenR, rLenA, rListI, rSortI', rAllB, rEqI, rNeI, rCatI, rCatS, tLM, rAppI, rAppR, rExtI, rIdxI, tLstI, tLstS, tFldT, sFldT, gUnI, gUnR, gTupT, gCons, gNil, sAugT, tTup, tLst, tCB, tAug, ipI, tPar, tM1, tMth, tMk, tRz, tRangeL, tYes, allInts, tupInts, allStrs, tupStrs, L2.rIsN, tIsN, rgV,
  List.map_cons, List.map_nil, List.length_cons, List.length_nil, Nat.zero_add, Nat.reduceAdd, Nat.reduceSub, Nat.reduceLeDiff, Nat.sub_zero, List.replicate_succ, List.replicate_zero, List.cons_append, List.nil_append, List.append_nil, List.set_cons_zero, List.set_cons_succ, List.getElem?_cons_zero, List.getElem?_cons_succ, Option.some.injEq, exists_and_left, exists_and_right, exists_eq_left', exists_eq_left, ex_il, ex_rl, ex_sl, lk_tok1, lk_tok2, lk_tok3, lk_tok4, lk_rdr1, lk_rdr2, lk_rdr3, lk_rdr4, lk_rdr5, lk_ply1, lk_ply2, lk_tbl1, lk_tbl2, lk_tbl3, lk_cal1, lk_cal2, lk_cal3, lk_dsk1, lk_dsk2, lk_dsk3, pt_rdr2, pt_dsk2, len_rdr, len_dsk, Nat.reduceLT, HO.lst.injEq, Int.zero_add, exists_eq, exists_eq', V.int.injEq, V.ref.injEq, V.bl.injEq, V.str.injEq, List.cons.injEq, HO.ins.injEq, HO.tup.injEq, il_inj, rl_inj, sl_inj, bl_inj, and_assoc, true_and, and_true, decide_eq_true_eq, Bool.not_eq_true', decide_eq_false_iff_not, reduceCtorEq, upd_same, upd_old, Option.isSome_some, Option.isSome_none, ite_true, ite_false, wipe, *])
local macro_rules | `(tactic| walk_at "r0") => `(tactic| try simp only [tSeq, tAsg, tVar, tC, tOp, tTest, tIfS, tNext, tRet, tDrop, gName, rI0, rI, rU, tUn, rEq_int, rNe_int, tFn, tFnS, tCons, tNil, tChain, tAndV, tOrV, tNotV, tAnd, tOr, tNot, tB, tIf, L2.start, tFor_eq, tLc_eq, iIL, iRL, iRng1, iRng2, iRng3, iEnR, iEnI, iZpR, iZpI, iStr, iTup, rIxI, rIxR, rIxRL, rIxK, rSlI, tSl, tNoPart, tPart, rInI, rNotInI, rInK, rInT, rInF, rInL, rLenI, rLenR, rLenA, rListI, rSortI', rAllB, rEqI, rNeI, rCatI, rCatS, tLM, rAppI, rAppR, rExtI, rIdxI, tLstI, tLstS, tFldT, sFldT, gUnI, gUnR, gTupT, gCons, gNil, sAugT, tTup, tLst, tCB, tAug, ipI, tPar, tM1, tMth, tMk, tRz, tRangeL, tYes, allInts, tupInts, allStrs, tupStrs, L2.rIsN, tIsN, rgV,
  List.map_cons, List.map_nil, List.length_cons, List.length_nil, Nat.zero_add, Nat.reduceAdd, Nat.reduceSub, Nat.reduceLeDiff, Nat.sub_zero, List.replicate_succ, List.replicate_zero, List.cons_append, List.nil_append, List.append_nil, List.set_cons_zero, List.set_cons_succ, List.getElem?_cons_zero, List.getElem?_cons_succ, Option.some.injEq, exists_and_left, exists_and_right, exists_eq_left', exists_eq_left, ex_il, ex_rl, ex_sl, lk_tok1, lk_tok2, lk_tok3, lk_tok4, lk_rdr1, lk_rdr2, lk_rdr3, lk_rdr4, lk_rdr5, lk_ply1, lk_ply2, lk_tbl1, lk_tbl2, lk_tbl3, lk_cal1, lk_cal2, lk_cal3, lk_dsk1, lk_dsk2, lk_dsk3, pt_rdr2, pt_dsk2, len_rdr, len_dsk, Nat.reduceLT, HO.lst.injEq, Int.zero_add, exists_eq, exists_eq', V.int.injEq, V.ref.injEq, V.bl.injEq, V.str.injEq, List.cons.injEq, HO.ins.injEq, HO.tup.injEq, il_inj, rl_inj, sl_inj, bl_inj, and_assoc, true_and, and_true, decide_eq_true_eq, Bool.not_eq_true', decide_eq_false_iff_not, reduceCtorEq, upd_same, upd_old, Option.isSome_some, Option.isSome_none, ite_true, ite_false, wipe])
section
variable {P : Program} {w : World} {K : PySem.W.Frag} {mg : Str → Option Value} {base : Heap} {A : Ads}
open Vbndal (executeOnTable isCardArgument isKeyArgument isRowArgument isCardList isOrderArgument inRange)
def ok18 (ns : List Int) (ls : List (List Int)) (c : Vbndal.Call) : Prop := ∃ x k, ns = [x, k] ∧ c = .raise x k
theorem rng_eq (x : Int) (p : Nat) : inRange x 1 ((p : Int) - 1) = decide (1 ≤ x ∧ x < (p : Int)) := by
  unfold inRange
  rw [← Bool.decide_and]
  exact decide_eq_decide.mpr (by omega)
theorem pos_eq (x : Int) (n : Nat) : inRange x 0 ((n : Int) - 1) = decide (0 ≤ x ∧ x < (n : Int)) := by
  unfold inRange
  rw [← Bool.decide_and]
  exact decide_eq_decide.mpr (by omega)
theorem exp_eq (x : Int) (p : Nat) : (inRange x 1 ((p : Int) - 1) && Vbndal.isCoprimeExponent p x.toNat) = expB p x := by
  rw [rng_eq]
  unfold expB Vbndal.isCoprimeExponent
  by_cases h : 1 ≤ x ∧ x < (p : Int)
  · rw [decide_eq_true h, decide_eq_true (by omega : 1 ≤ x.toNat ∧ x.toNat < p), Bool.true_and, Bool.true_and, Bool.true_and, Bool.beq_eq_decide_eq]
  · rw [decide_eq_false h]
    rfl
theorem ite_sq (p x : Nat) : (if isSq p x = true then (1 : Int) else 0) = if Vbndal.lockCard p x (Vbndal.subgroupOrder p) = 1 then 1 else 0 := by
  unfold isSq Vbndal.subgroupOrder
  by_cases h : Vbndal.lockCard p x (p / 2) = 1
  · rw [if_pos h, if_pos (decide_eq_true h)]
  · rw [if_neg h, if_neg (fun z => h (of_decide_eq_true z))]
theorem fn_raised (T : Txt K mg A) : FnF P w K mg base (L2.CX P w) 6 A.d16 ["table", "numbers", "rows"] (spD A ok18) := by
  refine T.d_raised.fnX sc_raised (fun vs H Q E h => by obtain ⟨_, _, _, _, _, _, _, _, rfl, _⟩ := h; rfl) (fun f cdv Ar outer s H vs Q E hr h => ⟨_, (pss_cons (ps_asg (pv 1) (pg_unI (n := 2) rfl (pgs_cons (pg_name (i := 3) sc_raised.nd rfl (Or.inl rfl)) (pgs_cons (pg_name (i := 4) sc_raised.nd rfl (Or.inl rfl)) pgs_nil)))) (pss_cons (ps_expr (pe_fn (fn_check_number T) (hr.mono (by decide)) (passes_call (takes_of rfl rfl rfl rfl) (fun _ _ _ _ h => h)) (pa_cons (pv 3) (pa_cons (pv 0) pa_nil)))) (pss_cons (ps_expr (pe_fn (fn_check_exponent T) (hr.mono (by decide)) (passes_call (takes_of rfl rfl rfl rfl) (fun _ _ _ _ h => h)) (pa_cons (pv 4) (pa_cons (pv 0) pa_nil)))) (pss_cons (ps_set (i := 5) sc_raised.nd rfl (.inl rfl) (pe_fn (fn_power_of T) (hr.mono (by decide)) pass0 (pa_cons (pv 3) (pa_cons (pv 4) (pa_cons (pe_fldT T.c_Table.cl T.n_Table_prime (pv 0) rfl) pa_nil))))) (pss_one (ps_ret (pe_lstI (pa_cons (pv 5) (pa_cons (pe_callTy call_int1 (by rfl) T.b_int (by decide +kernel) (pa_cons (pe_fn (fn_is_square T) (hr.mono (by decide)) pass0 (pa_cons (pv 3) (pa_cons (pe_fldT T.c_Table.cl T.n_Table_prime (pv 0) rfl) pa_nil))) pa_nil)) (pa_cons (pe_callTy call_int1 (by rfl) T.b_int (by decide +kernel) (pa_cons (pe_fn (fn_is_square T) (hr.mono (by decide)) pass0 (pa_cons (pv 5) (pa_cons (pe_fldT T.c_Table.cl T.n_Table_prime (pv 0) rfl) pa_nil))) pa_nil)) pa_nil)))))))))), ?_⟩)
  obtain ⟨t, n, rs, tb, ns, as, ls, c, rfl, hT, ok, hn, hrs, hp, hl, ⟨x, k, rfl, rfl⟩, q⟩ := h
  obtain ⟨dx, da, la, ps, h1, h2, h3, h4⟩ := id hT
  simp only [executeOnTable, exp_eq, rng_eq x] at q
  walk_at "rd"
  refine ⟨x, t, tb, rfl, hT, fun b1 => ?_, fun b1 => q.no (by rw [b1]; rfl) (by decide)⟩
  refine ⟨k, t, tb, rfl, hT, ok.hP, fun b2 => ?_, fun b2 => q.no (by rw [b1, b2]; rfl) (by decide)⟩
  obtain ⟨b3, b4⟩ := of_decide_eq_true b1
  have b5 : 1 ≤ k ∧ k < (tb.prime : Int) := by
    unfold expB at b2
    rw [Bool.and_eq_true] at b2
    exact of_decide_eq_true b2.1
  obtain ⟨x, rfl⟩ : ∃ y : Nat, x = y := ⟨x.toNat, by omega⟩
  obtain ⟨k, rfl⟩ : ∃ y : Nat, k = y := ⟨k.toNat, by omega⟩
  rw [b1, b2] at q
  have hlo := ok.hP.lo
  have hhi := ok.hP.hi
  refine ⟨_, _, h1, _, rfl, x, k, tb.prime, rfl, by omega, by omega, by omega, ?_⟩
  refine ⟨_, _, h1, _, rfl, x, tb.prime, rfl, ok.hP, ?_⟩
  refine .inr ⟨_, rfl, _, _, h1, _, rfl, Vbndal.lockCard tb.prime x k, tb.prime, rfl, ok.hP, .inr ⟨_, rfl, rfl, fun p hp => ?_⟩⟩
  refine q.out ?_ (Same.new hp) upd_same (by show 3 ≤ 5000; decide)
  show _ = 0 :: [_, _, _]
  rw [ite_sq, ite_sq]
  rfl
def ok16 (ns : List Int) (ls : List (List Int)) (c : Vbndal.Call) : Prop := ∃ i l, ns = [i] ∧ ls = [l] ∧ c = .openCard i l
theorem open_eq {tb : Vbndal.Table} (ok : TOk tb) {r : List Nat} (hr : ∀ x ∈ r, Cm.IsC tb.prime x) {i : Nat} (hi : i < r.length) : Vbndal.openCard tb r i = tb.deck.findIdx? fun c => c == Vbndal.lockCard tb.prime (r.getD i 0) (Vbndal.inverseKey tb.prime (Vbndal.jointKey tb.prime (tb.players.map fun y => y.key))) := by
  unfold Vbndal.openCard
  have hc : Cm.IsC tb.prime (r.getD i 0) := hr _ (by
    rw [List.getD_eq_getElem?_getD, List.getElem?_eq_getElem hi]
    exact List.getElem_mem hi)
  rw [Cm.joint_open ok.hP hc fun k hk => by
    obtain ⟨y, hy, rfl⟩ := List.mem_map.mp hk
    exact ok.keys y hy]
  rw [List.foldl_map]
theorem find_none {w : List Nat} {y : Nat} (h : y ∉ w) : (w.findIdx? fun x => x == y) = none := by
  rw [List.findIdx?_eq_none_iff]
  intro x hx
  rw [beq_eq_false_iff_ne]
  exact fun z => h (z ▸ hx)
theorem fn_opened (T : Txt K mg A) : FnF P w K mg base (L2.CX P w) 6 A.d14 ["table", "numbers", "rows"] (spD A ok16) := by
  refine T.d_opened.fnX sc_opened (fun vs H Q E h => by obtain ⟨_, _, _, _, _, _, _, _, rfl, _⟩ := h; rfl) (fun f cdv Ar outer s H vs Q E hr h => ⟨_, (pss_cons (ps_expr (pe_fn (fn_check_position T) (hr.mono (by decide)) (passes_call (takes_of rfl rfl rfl rfl) (fun _ _ _ _ h => h)) (pa_cons (pe_ix ix_I (pv 1) pe_int (fun _ _ => rfl)) (pa_cons (pe_callB len_I (by rfl) T.b_len (by decide +kernel) (pa_cons (pe_fldT T.c_Table.cl T.n_Table_deck (pv 0) rfl) pa_nil)) pa_nil)))) (pss_cons (ps_expr (pe_fn (fn_check_cards T) (hr.mono (by decide)) (passes_call (takes_of rfl rfl rfl rfl) (fun _ _ _ _ h => h)) (pa_cons (pe_ix ix_R (pv 2) pe_int (fun _ _ => rfl)) (pa_cons (pe_callB len_I (by rfl) T.b_len (by decide +kernel) (pa_cons (pe_fldT T.c_Table.cl T.n_Table_deck (pv 0) rfl) pa_nil)) (pa_cons (pv 0) pa_nil))))) (pss_cons (ps_set (i := 3) sc_opened.nd rfl (.inl rfl) (pe_fn (fn_joint_of T) (hr.mono (by decide)) pass0 (pa_cons (pe_fn (fn_keys_of T) (hr.mono (by decide)) pass0 (pa_cons (pv 0) pa_nil)) (pa_cons (pe_fldT T.c_Table.cl T.n_Table_prime (pv 0) rfl) pa_nil)))) (pss_cons (ps_set (i := 4) sc_opened.nd rfl (.inl rfl) (pe_fn (fn_locked T) (hr.mono (by decide)) pass0 (pa_cons (pe_ix ix_I (pe_ix ix_R (pv 2) pe_int (fun _ _ => rfl)) (pe_ix ix_I (pv 1) pe_int (fun _ _ => rfl)) (fun _ _ => rfl)) (pa_cons (pe_fn (fn_inverse_of T) (hr.mono (by decide)) pass0 (pa_cons (pv 3) (pa_cons (pe_fldT T.c_Table.cl T.n_Table_prime (pv 0) rfl) pa_nil))) (pa_cons (pe_fldT T.c_Table.cl T.n_Table_prime (pv 0) rfl) pa_nil))))) (pss_cons (ps_if (pt_cmpR op_notInI (pv 4) (pe_fldT T.c_Table.cl T.n_Table_deck (pv 0) rfl) (by rfl)) (pss_one (ps_rz (err_Refused T) rfl (takes_of rfl rfl rfl rfl) (hr.mono (by decide)) (pa_cons (pe_ki T.k_NOT_IN_DECK) pa_nil))) pss_nil) (pss_one (ps_ret (pe_lstI (pa_cons (pe_lm PySem.F.plainAttrs_list PySem.F.slot_list_index PySem.F.type_list_index idx_I (pe_fldT T.c_Table.cl T.n_Table_deck (pv 0) rfl) (pa_cons (pv 4) pa_nil)) pa_nil))))))))), ?_⟩)
  obtain ⟨t, n, rs, tb, ns, as, ls, c, rfl, hT, ok, hn, hrs, hp, hl, ⟨i, l, rfl, rfl, rfl⟩, q⟩ := h
  obtain ⟨dx, da, la, ps, h1, h2, h3, h4⟩ := id hT
  cases hp with
  | @cons a0 _ _ _ g1 g2 =>
  cases g2
  simp only [executeOnTable, list_arg tb ok.hP, pos_eq] at q
  walk_at "rd"
  refine ⟨by decide, by decide, i, _, rfl, fun b1 => ?_, fun b1 => q.no (by rw [nI_len] at b1; rw [b1, Bool.and_false]; rfl) (by decide)⟩
  rw [nI_len] at b1
  refine ⟨_, hrs, by decide, by simp, _, _, h1, _, rfl, _, rfl, _, h2, a0, t, l, tb.deck.length, tb, by rw [nI_len]; rfl, g1, hT, ok.hP, fun b2 => ?_, fun b2 => q.no (by rw [b2]; rfl) (by decide)⟩
  have b2' := b2
  rw [Bool.and_eq_true, decide_eq_true_eq] at b2'
  obtain ⟨b4, b5⟩ := b2'
  obtain ⟨r, rfl, hrc⟩ := all_ca ok.hP b5
  rw [nI_len] at b4
  have b6 := of_decide_eq_true b1
  obtain ⟨i, rfl⟩ : ∃ y : Nat, i = y := ⟨i.toNat, by omega⟩
  have hi : i < r.length := by omega
  rw [b1, b2, nats_nI, Int.toNat_natCast, open_eq ok hrc hi] at q
  dsimp only
  refine ⟨t, tb, rfl, hT, ok, fun H1 b s1 hb => ?_⟩
  have hks : ∀ k ∈ tb.players.map fun y => y.key, Cm.IsK tb.prime k := fun k hk => by
    obtain ⟨y, hy, rfl⟩ := List.mem_map.mp hk
    exact ok.keys y hy
  refine ⟨_, _, s1 _ _ h1, _, rfl, b, _, _, rfl, ok.hP, hb, hks, ?_⟩
  have hJ := Cm.joint_isK ok.hP hks
  refine ⟨_, s1 _ _ hrs, by decide, by simp, _, s1 _ _ hn, by decide, by simp, _, s1 _ _ g1, by show (0 : Int) ≤ (i : Nat); omega, by rw [nI_len]; show ((i : Nat) : Int) < _; omega, ?_⟩
  have hv : (nI r).getD ([((i : Nat) : Int)].getD (Int.toNat 0) 0).toNat 0 = ((r.getD i 0 : Nat) : Int) := by
    show (nI r).getD ((i : Nat) : Int).toNat 0 = _
    rw [Int.toNat_natCast, nI_getD]
  rw [hv]
  have g1' := s1 _ _ h1
  have g2' := s1 _ _ h2
  refine ⟨_, _, g1', _, rfl, _, tb.prime, rfl, ok.hP, hJ, ?_⟩
  refine ⟨_, _, g1', _, rfl, r.getD i 0, _, tb.prime, rfl, ok.hP, k_small ok.hP (Cm.inv_isK ok.hP hJ), ?_⟩
  refine ⟨_, _, g1', _, rfl, _, _, _, rfl, rfl, g2', ?_⟩
  generalize Vbndal.lockCard tb.prime (r.getD i 0) (Vbndal.inverseKey tb.prime (Vbndal.jointKey tb.prime (tb.players.map fun y => y.key))) = z at q ⊢
  by_cases hz : z ∈ tb.deck
  · rw [if_neg (fun e => e (nI_mem.mpr hz))]
    rw [Cm.idx_of hz] at q
    refine ⟨_, _, g1', _, rfl, _, rfl, ⟨_, g2'⟩, _, rfl, _, _, rfl, g2', nI_mem.mpr hz, fun p hp => ?_⟩
    rw [nI_idx]
    exact q.out rfl (s1.trans (Same.new hp)) upd_same (by show 1 ≤ 5000; decide)
  · rw [if_pos (fun e => hz (nI_mem.mp e))]
    exact ref_end ((q.no (by rw [find_none hz]; rfl) (by decide)).mono s1)
def ok17 (ns : List Int) (ls : List (List Int)) (c : Vbndal.Call) : Prop := ∃ i ks r ys, ns = [i] ∧ ls = [ks, r, ys] ∧ c = .auditOpening i ks r ys
theorem drop_more {α : Type} {l : List α} {i : Nat} {x : α} (h : l[i]? = some x) : l.drop i = x :: l.drop (i + 1) := by
  obtain ⟨h1, h2⟩ := List.getElem?_eq_some_iff.mp h
  rw [List.drop_eq_getElem_cons h1, h2]
structure WAo (p : Nat) (ks ys : List Nat) (c0 : Nat) (Z : Addr × Addr × Addr × Addr × Addr × Addr) (H : Hp) (j : Nat) (σ : L2.St) (H' : Hp) : Prop where
  s : Same H H'
  e : ∃ (c : Nat) (u v : Option V), σ = [some (.ref Z.1), some (.ref Z.2.1), some (.ref Z.2.2.1), some (.ref Z.2.2.2.1), some (.ref Z.2.2.2.2.1), some (.ref Z.2.2.2.2.2), some (.int c), u, v] ∧ Vbndal.auditOpening p 0 c0 (ks.zip ys) = Vbndal.auditOpening p j c ((ks.zip ys).drop j)
theorem fn_audit_opening (T : Txt K mg A) : FnF P w K mg base (L2.CX P w) 7 A.d15 ["table", "numbers", "rows"] (spD A ok17) := by
  refine T.d_audit_opening.fnX sc_audit_opening (fun vs H Q E h => by obtain ⟨_, _, _, _, _, _, _, _, rfl, _⟩ := h; rfl) (fun f cdv Ar outer s H vs Q E hr h => ⟨_, (pss_cons (ps_asg (pv 2) (pg_unR (n := 3) rfl (pgs_cons (pg_name (i := 3) sc_audit_opening.nd rfl (Or.inl rfl)) (pgs_cons (pg_name (i := 4) sc_audit_opening.nd rfl (Or.inl rfl)) (pgs_cons (pg_name (i := 5) sc_audit_opening.nd rfl (Or.inl rfl)) pgs_nil))))) (pss_cons (ps_expr (pe_fn (fn_check_position T) (hr.mono (by decide)) (passes_call (takes_of rfl rfl rfl rfl) (fun _ _ _ _ h => h)) (pa_cons (pe_ix ix_I (pv 1) pe_int (fun _ _ => rfl)) (pa_cons (pe_callB len_I (by rfl) T.b_len (by decide +kernel) (pa_cons (pe_fldT T.c_Table.cl T.n_Table_deck (pv 0) rfl) pa_nil)) pa_nil)))) (pss_cons (ps_expr (pe_fn (fn_check_revealed T) (hr.mono (by decide)) (passes_call (takes_of rfl rfl rfl rfl) (fun _ _ _ _ h => h)) (pa_cons (pv 3) (pa_cons (pv 0) pa_nil)))) (pss_cons (ps_expr (pe_fn (fn_check_cards T) (hr.mono (by decide)) (passes_call (takes_of rfl rfl rfl rfl) (fun _ _ _ _ h => h)) (pa_cons (pv 4) (pa_cons (pe_callB len_I (by rfl) T.b_len (by decide +kernel) (pa_cons (pe_fldT T.c_Table.cl T.n_Table_deck (pv 0) rfl) pa_nil)) (pa_cons (pv 0) pa_nil))))) (pss_cons (ps_expr (pe_fn (fn_check_cards T) (hr.mono (by decide)) (passes_call (takes_of rfl rfl rfl rfl) (fun _ _ _ _ h => h)) (pa_cons (pv 5) (pa_cons (pe_callB len_R (by rfl) T.b_len (by decide +kernel) (pa_cons (pe_fldT T.c_Table.cl T.n_Table_players (pv 0) rfl) pa_nil)) (pa_cons (pv 0) pa_nil))))) (pss_cons (ps_set (i := 6) sc_audit_opening.nd rfl (.inl rfl) (pe_ix ix_I (pv 4) (pe_ix ix_I (pv 1) pe_int (fun _ _ => rfl)) (fun _ _ => rfl))) (pss_cons (ps_for (passes_of rfl) rfl (pi_enI K (by rfl) T.b_enumerate (pa_cons (pv 5) pa_nil)) (pg_tupT (n := 2) rfl (pgs_cons (pg_name (i := 7) sc_audit_opening.nd rfl (Or.inl rfl)) (pgs_cons (pg_name (i := 8) sc_audit_opening.nd rfl (Or.inl rfl)) pgs_nil))) (pss_cons (ps_if (pt_cmpR op_ne (pe_fn (fn_locked T) (hr.mono (by decide)) pass0 (pa_cons (pv 8) (pa_cons (pe_ix ix_I (pv 3) (pv 7) (fun _ _ => rfl)) (pa_cons (pe_fldT T.c_Table.cl T.n_Table_prime (pv 0) rfl) pa_nil)))) (pv 6) (nomark _)) (pss_one (ps_ret (pe_lstI (pa_cons pe_int (pa_cons (pv 7) pa_nil))))) pss_nil) (pss_one (ps_set (i := 6) sc_audit_opening.nd rfl (.inl rfl) (pv 8))))) (pss_one (ps_ret (pe_ifExp (pt_cmpR op_inI (pv 6) (pe_fldT T.c_Table.cl T.n_Table_deck (pv 0) rfl) (by rfl)) (pe_lstI (pa_cons pe_int (pa_cons (pe_lm PySem.F.plainAttrs_list PySem.F.slot_list_index PySem.F.type_list_index idx_I (pe_fldT T.c_Table.cl T.n_Table_deck (pv 0) rfl) (pa_cons (pv 6) pa_nil)) pa_nil))) (pe_lstI (pa_cons pe_int pa_nil)))))))))))), ?_⟩)
  obtain ⟨t, n, rs, tb, ns, as, ls, c, rfl, hT, ok, hn, hrs, hp, hl, ⟨i, ks, r, ys, rfl, rfl, rfl⟩, q⟩ := h
  obtain ⟨dx, da, la, ps, h1, h2, h3, h4⟩ := id hT
  cases hp with
  | @cons a0 _ _ _ g1 g2 =>
  cases g2 with
  | @cons a1 _ _ _ g3 g4 =>
  cases g4 with
  | @cons a2 _ _ _ g5 g6 =>
  cases g6
  have hlen := paired_len h4
  have hrv : Vbndal.areRevealedKeys tb ks = (decide (ks.length = tb.players.length) && ks.all (isKe tb.prime)) := by
    unfold Vbndal.areRevealedKeys
    rw [allk_arg, Bool.beq_eq_decide_eq]
  simp only [executeOnTable, hrv, list_arg tb ok.hP, pos_eq] at q
  walk_at "rd"
  refine ⟨by decide, by decide, i, _, rfl, fun b1 => ?_, fun b1 => q.no (by rw [nI_len] at b1; rw [b1]; simp) (by decide)⟩
  rw [nI_len] at b1
  refine ⟨a0, t, ks, tb, rfl, g1, hT, ok, fun b2 => ?_, fun b2 => q.no (by rw [b2]; simp) (by decide)⟩
  refine ⟨_, _, h1, _, rfl, _, rfl, _, h2, a1, t, r, tb.deck.length, tb, by rw [nI_len], g3, hT, ok.hP, fun b3 => ?_, fun b3 => q.no (by rw [b3]; simp) (by decide)⟩
  refine ⟨_, _, h1, _, rfl, _, rfl, _, h3, a2, t, ys, tb.players.length, tb, by rw [hlen], g5, hT, ok.hP, fun b4 => ?_, fun b4 => q.no (by rw [b4]; simp) (by decide)⟩
  rw [b1, b2, b3, b4] at q
  rw [Bool.and_eq_true, decide_eq_true_eq] at b2 b3 b4
  obtain ⟨ks, rfl, hks⟩ := all_ke b2.2
  obtain ⟨r, rfl, hrc⟩ := all_ca ok.hP b3.2
  obtain ⟨ys, rfl, hyc⟩ := all_ca ok.hP b4.2
  have l2 := b2.1
  have l3 := b3.1
  have l4 := b4.1
  rw [nI_len] at l2 l3 l4
  have b6 := of_decide_eq_true b1
  obtain ⟨i, rfl⟩ : ∃ y : Nat, i = y := ⟨i.toNat, by omega⟩
  rw [nats_nI, nats_nI, nats_nI, Int.toNat_natCast] at q
  refine ⟨_, hn, by decide, by simp, _, g3, by show (0 : Int) ≤ (i : Nat); omega, by rw [nI_len]; show ((i : Nat) : Int) < _; omega, ⟨_, g5⟩, ?_⟩
  have hv : (nI r).getD ([((i : Nat) : Int)].getD (Int.toNat 0) 0).toNat 0 = ((r.getD i 0 : Nat) : Int) := by
    show (nI r).getD ((i : Nat) : Int).toNat 0 = _
    rw [Int.toNat_natCast, nI_getD]
  rw [hv]
  refine for_w walk_enI (WAo tb.prime ks ys (r.getD i 0) (t, n, rs, a0, a1, a2) H) ⟨Same.refl _, _, _, _, rfl, by rw [List.drop_zero]⟩ (fun j σ H' _ hh => hh.s _ _ g5) (fun j x σ H6 H7 hlt hh y => ?_) fun σ H6 hh => ?_
  · obtain ⟨S6, c, u, v, rfl, he⟩ := hh
    obtain ⟨T, m, hm, rfl, hTn, rfl⟩ := y
    obtain ⟨m, hm2, rfl⟩ := nI_get hm
    have S7 := S6.trans (Same.new (o := .tup [.int (j : Nat), .int (m : Nat)]) hTn)
    have e1 := S7 _ _ h1
    have e2 := S7 _ _ g1
    walk_at "rd"
    rw [nI_len] at hlt
    obtain ⟨k, hk⟩ : ∃ k, ks[j]? = some k := ⟨ks[j]'(by omega), List.getElem?_eq_getElem (by omega)⟩
    have hzz : (ks.zip ys)[j]? = some (k, m) := List.getElem?_zip_eq_some.mpr ⟨hk, hm2⟩
    refine ⟨by omega, by omega, m, k, tb.prime, by rw [Int.toNat_natCast, nI_getD, List.getD_eq_getElem?_getD, hk]; rfl, ok.hP, k_small ok.hP (hks k (mem_of_get hk)), ?_⟩
    walk_at "r0"
    by_cases e : Vbndal.lockCard tb.prime m k = c
    · rw [if_neg (by omega)]
      exact ⟨S7, m, _, _, rfl, he.trans (by rw [drop_more hzz, Cm.ao_yes e])⟩
    · rw [if_pos (by omega)]
      intro p hp
      refine q.out ?_ (S7.trans (Same.new hp)) upd_same (by show 2 ≤ 5000; decide)
      rw [he, drop_more hzz, Cm.ao_no e]
      rfl
  · obtain ⟨S6, c, u, v, rfl, he⟩ := hh
    have e1 := S6 _ _ h1
    have e2 := S6 _ _ h2
    walk_at "rd"
    rw [nI_len, List.drop_eq_nil_of_le (by rw [List.length_zip]; omega)] at he
    have he : Vbndal.auditOpening tb.prime 0 (r.getD i 0) (ks.zip ys) = .opened c := he
    rw [he] at q
    by_cases hz : c ∈ tb.deck
    · rw [if_pos (nI_mem.mpr hz)]
      refine ⟨nI_mem.mpr hz, fun p hp => ?_⟩
      rw [nI_idx]
      refine q.out ?_ (S6.trans (Same.new hp)) upd_same (by show 2 ≤ 5000; decide)
      simp only [Bool.and_self, Cm.idx_of hz]
      rfl
    · rw [if_neg (fun e => hz (nI_mem.mp e))]
      intro p hp
      refine q.out ?_ (S6.trans (Same.new hp)) upd_same (by show 1 ≤ 5000; decide)
      simp only [Bool.and_self, find_none hz]
      rfl
def sp_corders (A : Ads) : Sp := fun vs H Q E => ∃ (a : Addr) (l : List Int) (n m : Nat), vs = [.ref a, .int n, .int m] ∧ H a = some (IL l) ∧ l.length ≤ 60 ∧ 1 ≤ n ∧ n ≤ 10 ∧ m ≤ 4 ∧ ((l.length = n * m ∧ ∀ i < m, orderB n (Cm.part n i l) = true) → ∀ H', Same H H' → Q .non H') ∧ (¬ (l.length = n * m ∧ ∀ i < m, orderB n (Cm.part n i l) = true) → RefE A (-1) H E)
theorem fn_check_orders (T : Txt K mg A) : FnAt P w K mg base (L2.CX P w) 5 "check_orders" ["numbers", "many", "players"] (sp_corders A) := by
  refine T.d_check_orders.fnX sc_check_orders (fun vs H Q E h => by obtain ⟨_, _, _, _, rfl, _⟩ := h; rfl) (fun f cdv Ar outer s H vs Q E hr h => ⟨_, (pss_cons (ps_expr (pe_fn (fn_need T) (hr.mono (by decide)) (passes_call (takes_of rfl rfl rfl rfl) (fun _ _ _ _ h => h)) (pa_cons (pe_cmpR op_eq (pe_callB len_I (by rfl) T.b_len (by decide +kernel) (pa_cons (pv 0) pa_nil)) (pe_op op_mul (pv 1) (pv 2)) (nomark _)) pa_nil))) (pss_one (ps_for (passes_of rfl) rfl (pi_RL K (pe_fn (fn_parts_of T) (hr.mono (by decide)) pass0 (pa_cons (pv 0) (pa_cons (pv 1) pa_nil)))) (pg_name (i := 3) sc_check_orders.nd rfl (Or.inl rfl)) (pss_one (ps_expr (pe_fn (fn_check_order T) (hr.mono (by decide)) (passes_call (takes_of rfl rfl rfl rfl) (fun _ _ _ _ h => h)) (pa_cons (pv 3) (pa_cons (pv 1) pa_nil)))))))), ?_⟩)
  obtain ⟨a, l, n, m, rfl, ha, hl, hn1, hn, hm, q, qe⟩ := h
  walk_at "rd"
  refine ⟨.inl ⟨by omega, by omega⟩, _, rfl, fun b1 => ?_, fun b1 => qe fun z => ?_⟩
  · have hlen : l.length = n * m := by
      have := of_decide_eq_true b1
      have e : (n : Int) * m = ((n * m : Nat) : Int) := by push_cast; rfl
      rw [e] at this
      omega
    refine ⟨a, l, n, m, rfl, ha, hn1, by omega, hlen, by omega, fun H1 b as s1 hb hal hat _ => ?_⟩
    refine ⟨b, rfl, ⟨_, hb⟩, ?_⟩
    refine for_w walk_RL (fun j σ H' => Same H1 H' ∧ (∃ v, σ = [some (.ref a), some (.int n), some (.int m), v]) ∧ ∀ i < j, orderB n (Cm.part n i l) = true) ⟨Same.refl _, ⟨_, rfl⟩, fun i hi => absurd hi (Nat.not_lt_zero _)⟩ (fun j σ H' _ hh => hh.1 _ _ hb) (fun j x σ H6 H7 hlt hh y => ?_) fun σ H6 hh => ?_
    · obtain ⟨S6, ⟨v, rfl⟩, ho⟩ := hh
      obtain ⟨rfl, c, hc, rfl⟩ := y
      have hc2 := S6 _ _ (hat j c hc).1
      walk_at "rd"
      refine ⟨c, _, n, rfl, hc2, ?_, by omega, fun b2 H8 s8 => ?_, fun b2 => ?_⟩
      · rw [List.length_take]
        omega
      · refine ⟨S6.trans s8, fun i hi => ?_⟩
        rcases Nat.lt_or_ge i j with z | z
        · exact ho i z
        · have : i = j := by omega
          rw [this]
          exact b2
      · refine RefE.mono (qe fun z => ?_) (s1.trans S6)
        have := z.2 j (by omega)
        unfold Cm.part at this
        rw [this] at b2
        cases b2
    · obtain ⟨S6, ⟨v, rfl⟩, ho⟩ := hh
      walk_at "r0"
      exact q ⟨hlen, fun i hi => ho i (by omega)⟩ _ (s1.trans S6)
  · have := of_decide_eq_false b1
    have e : (n : Int) * m = ((n * m : Nat) : Int) := by push_cast; rfl
    rw [e] at this
    exact this (by have := z.1; omega)
def ok15 (ns : List Int) (ls : List (List Int)) (c : Vbndal.Call) : Prop := ∃ l, ls = [l] ∧ c = .deal l
def rowAt (tb : Vbndal.Table) (ms : List (List Nat)) (j : Nat) : List Nat := ((tb.players.zip ms).take j).foldl (fun l x => Vbndal.shuffled tb.prime l x.2 x.1.key) tb.deck
structure WDl (tb : Vbndal.Table) (ms : List (List Nat)) (Z : Addr × Addr × Addr) (H : Hp) (j : Nat) (σ : L2.St) (H' : Hp) : Prop where
  s : Same H H'
  e : ∃ (row : Addr) (u v : Option V), σ = [some (.ref Z.1), some (.ref Z.2.1), some (.ref Z.2.2), some (.int (nI tb.deck).length), some (.ref row), u, v] ∧ H' row = some (IL (nI (rowAt tb ms j))) ∧ (rowAt tb ms j).length = tb.deck.length
theorem fn_deal (T : Txt K mg A) : FnF P w K mg base (L2.CX P w) 6 A.d13 ["table", "numbers", "rows"] (spD A ok15) := by
  refine T.d_deal.fnX sc_deal (fun vs H Q E h => by obtain ⟨_, _, _, _, _, _, _, _, rfl, _⟩ := h; rfl) (fun f cdv Ar outer s H vs Q E hr h => ⟨_, (pss_cons (ps_set (i := 3) sc_deal.nd rfl (.inl rfl) (pe_callB len_I (by rfl) T.b_len (by decide +kernel) (pa_cons (pe_fldT T.c_Table.cl T.n_Table_deck (pv 0) rfl) pa_nil))) (pss_cons (ps_expr (pe_fn (fn_check_orders T) (hr.mono (by decide)) (passes_call (takes_of rfl rfl rfl rfl) (fun _ _ _ _ h => h)) (pa_cons (pe_ix ix_R (pv 2) pe_int (fun _ _ => rfl)) (pa_cons (pv 3) (pa_cons (pe_callB len_R (by rfl) T.b_len (by decide +kernel) (pa_cons (pe_fldT T.c_Table.cl T.n_Table_players (pv 0) rfl) pa_nil)) pa_nil))))) (pss_cons (ps_set (i := 4) sc_deal.nd rfl (.inl rfl) (pe_fldT T.c_Table.cl T.n_Table_deck (pv 0) rfl)) (pss_cons (ps_for (passes_of rfl) rfl (pi_zpR K (by rfl) T.b_zip (pa_cons (pe_fldT T.c_Table.cl T.n_Table_players (pv 0) rfl) (pa_cons (pe_fn (fn_parts_of T) (hr.mono (by decide)) pass0 (pa_cons (pe_ix ix_R (pv 2) pe_int (fun _ _ => rfl)) (pa_cons (pv 3) pa_nil))) pa_nil))) (pg_tupT (n := 2) rfl (pgs_cons (pg_name (i := 5) sc_deal.nd rfl (Or.inl rfl)) (pgs_cons (pg_name (i := 6) sc_deal.nd rfl (Or.inl rfl)) pgs_nil))) (pss_one (ps_set (i := 4) sc_deal.nd rfl (.inl rfl) (pe_fn (fn_shuffled T) (hr.mono (by decide)) pass0 (pa_cons (pv 4) (pa_cons (pe_fldT T.c_Player.cl T.n_Player_key (pv 5) rfl) (pa_cons (pv 6) (pa_cons (pe_fldT T.c_Table.cl T.n_Table_prime (pv 0) rfl) pa_nil)))))))) (pss_one (ps_ret (pe_callTy list_I (by rfl) T.b_list (by decide +kernel) (pa_cons (pv 4) pa_nil)))))))), ?_⟩)
  obtain ⟨t, n, rs, tb, ns, as, ls, c, rfl, hT, ok, hn, hrs, hp, hl, ⟨l, rfl, rfl⟩, q⟩ := h
  obtain ⟨dx, da, la, ps, h1, h2, h3, h4⟩ := id hT
  cases hp with
  | @cons a0 _ _ _ g1 g2 =>
  cases g2
  have hlen := paired_len h4
  have hd2 := ok.d2
  have hd10 := ok.d10
  have hp4 := ok.p4
  have hl1 := hl l (by simp)
  have oeq : ∀ i, isOrderArgument tb.deck.length (Cm.part tb.deck.length i l) = orderB tb.deck.length (Cm.part tb.deck.length i l) := fun i => order_arg hd10 _
  simp only [executeOnTable] at q
  walk_at "rd"
  refine ⟨by decide, by decide, a0, l, tb.deck.length, tb.players.length, by rw [nI_len]; rfl, g1, hl1, by omega, hd10, hp4, fun hz H1 s1 => ?_, fun hz => q.no (by rw [Cm.decode_none _ _ (fun z => hz ⟨z.1, fun i hi => by rw [← oeq]; exact z.2 i hi⟩)]) (by decide)⟩
  rw [Cm.decode_some _ _ hz.1 (fun i hi => by rw [oeq]; exact hz.2 i hi)] at q
  have e1 := s1 _ _ h1
  refine ⟨_, _, e1, _, rfl, _, _, e1, _, rfl, _, s1 _ _ hrs, by decide, by simp, ?_⟩
  refine ⟨a0, l, tb.deck.length, tb.players.length, by rw [nI_len]; rfl, s1 _ _ g1, by omega, by omega, hz.1, by omega, fun H2 b as s2 hb hal hat _ => ?_⟩
  have s12 := s1.trans s2
  refine ⟨la, rfl, b, rfl, ⟨_, s12 _ _ h3⟩, ⟨_, hb⟩, ?_⟩
  generalize hms : ((List.range tb.players.length).map fun i => Vbndal.toNats (Cm.part tb.deck.length i l)) = ms at q
  have hml : ms.length = tb.players.length := by rw [← hms, List.length_map, List.length_range]
  refine for_w walk_zpR (WDl tb ms (t, n, rs) H2) ⟨Same.refl _, da, _, _, rfl, s12 _ _ h2, rfl⟩ (fun j σ H' _ hh => ⟨hh.s _ _ (s12 _ _ h3), hh.s _ _ hb⟩) (fun j x σ H6 H7 hlt hh y => ?_) fun σ H6 hh => ?_
  · obtain ⟨S6, row, u, v, rfl, hrow, hrl⟩ := hh
    obtain ⟨T, pl, pa, hpl, hpa, rfl, hTn, rfl⟩ := y
    have hj : j < tb.players.length := by omega
    obtain ⟨y, hy⟩ : ∃ y, tb.players[j]? = some y := ⟨tb.players[j], List.getElem?_eq_getElem hj⟩
    obtain ⟨dy, na, f1, f2⟩ := paired_get h4 hpl hy
    have S7 := S6.trans (Same.new (o := .tup [.ref pl, .ref pa]) hTn)
    have e2 := S7 _ _ (s12 _ _ h1)
    have e3 := S7 _ _ (s12 _ _ f1)
    have e4 := S7 _ _ (hat j pa hpa).1
    have hrow' := (Same.new (o := .tup [.ref pl, .ref pa]) hTn) _ _ hrow
    obtain ⟨m, hm1, hm2⟩ := order_of_b (hz.2 j hj)
    have hmj : ms[j]? = some m := by
      rw [← hms, List.getElem?_map, List.getElem?_range hj]
      show some (Vbndal.toNats (Cm.part tb.deck.length j l)) = _
      rw [hm1, nats_nI]
    have hzz : (tb.players.zip ms)[j]? = some (y, m) := List.getElem?_zip_eq_some.mpr ⟨hy, hmj⟩
    have hnx : rowAt tb ms (j + 1) = Vbndal.shuffled tb.prime (rowAt tb ms j) m y.key := by
      unfold rowAt
      rw [take_more hzz, List.foldl_append]
      rfl
    have hmlen : m.length = tb.deck.length := by rw [hm2.length_eq, List.length_range]
    unfold Cm.part at hm1
    rw [hm1] at e4
    walk_at "rd"
    refine ⟨row, pa, rowAt tb ms j, m, y.key, tb.prime, rfl, ok.hP, k_small ok.hP (ok.keys y (mem_of_get hy)), hrow', e4, by omega, fun i hi => ?_, fun H8 b8 s8 hb8 => ?_⟩
    · rw [hrl]
      exact List.mem_range.mp (hm2.mem_iff.mp hi)
    · refine ⟨S7.trans s8, b8, _, _, rfl, ?_, ?_⟩
      · rw [hnx]
        exact hb8
      · rw [hnx]
        unfold Vbndal.shuffled
        rw [List.length_map]
        exact hmlen
  · obtain ⟨S6, row, u, v, rfl, hrow, hrl⟩ := hh
    rw [hlen, hal] at hrow hrl
    walk_at "rd"
    intro p hp
    have hk : rowAt tb ms (min tb.players.length tb.players.length) = Vbndal.dealOf tb ms := by
      unfold rowAt Vbndal.dealOf
      rw [List.take_of_length_le (by rw [List.length_zip]; omega)]
    refine q.out ?_ ((s12.trans S6).trans (Same.new hp)) upd_same (by rw [nI_len]; omega)
    rw [hk]
    rfl
end
end Cl
set_option Elab.async false
set_option linter.all false
set_option maxRecDepth 100000
set_option maxHeartbeats 4000000
namespace Cl
open PySem PySem.Spec PyProof.Rows L2
local macro_rules | `(tactic| walk_at "rd") => `(tactic| try simp only [tSeq, tAsg, tVar, tC, tOp, tTest, tIfS, tNext, tRet, tDrop, gName, rI0, rI, rU, tUn, rEq_int, rNe_int, tFn, tFnS, tCons, tNil, tChain, tAndV, tOrV, tNotV, tAnd, tOr, tNot, tB, tIf, L2.start, tFor_eq, tLc_eq, iIL, iRL, iRng1, iRng2, iRng3, iEnR, iEnI, iZpR, iZpI, iStr, iTup, rIxI, rIxR, rIxRL, rIxK, rSlI, tSl, tNoPart, tPart, rInI, rNotInI, rInK, rInT, rInF, rInL, rLenI, rLenR, rLenA, rListI, rSortI', rAllB, rEqI, rNeI, rCatI, rCatS, tLM, rAppI, rAppR, rExtI, rIdxI, tLstI, tLstS, tFldT, sFldT, gUnI, gUnR, gTupT, gCons, gNil, sAugT, tTup, tLst, tCB, tAug, ipI, tPar, tM1, tMth, tMk, tRz, tRangeL, tYes, allInts, tupInts, allStrs, tupStrs, L2.rIsN, tIsN, rgV,
  List.map_cons, List.map_nil, List.length_cons, List.length_nil, Nat.zero_add, Nat.reduceAdd, Nat.reduceSub, Nat.reduceLeDiff, Nat.sub_zero, List.replicate_succ, List.replicate_zero, List.cons_append, List.nil_append, List.append_nil, List.set_cons_zero, List.set_cons_succ, List.getElem?_cons_zero, List.getElem?_cons_succ, Option.some.injEq, exists_and_left, exists_and_right, exists_eq_left', exists_eq_left, ex_il, ex_rl, ex_sl, lk_tok1, lk_tok2, lk_tok3, lk_tok4, lk_rdr1, lk_rdr2, lk_rdr3, lk_rdr4, lk_rdr5, lk_ply1, lk_ply2, lk_tbl1, lk_tbl2, lk_tbl3, lk_cal1, lk_cal2, lk_cal3, lk_dsk1, lk_dsk2, lk_dsk3, pt_rdr2, pt_dsk2, len_rdr, len_dsk, Nat.reduceLT, HO.lst.injEq, Int.zero_add, exists_eq, exists_eq', V.int.injEq, V.ref.injEq, V.bl.injEq, V.str.injEq, List.cons.injEq, HO.ins.injEq, HO.tup.injEq, il_inj, rl_inj, sl_inj, bl_inj, and_assoc, true_and, and_true, decide_eq_true_eq, Bool.not_eq_true', decide_eq_false_iff_not, reduceCtorEq, upd_same, upd_old, Option.isSome_some, Option.isSome_none, ite_true, ite_false, wipe, *])
local macro_rules | `(tactic| walk_at "r0") => `(tactic| try simp only [tSeq, tAsg, tVar, tC, tOp, tTest, tIfS, tNext, tRet, tDrop, gName, rI0, rI, rU, tUn, rEq_int, rNe_int, tFn, tFnS, tCons, tNil, tChain, tAndV, tOrV, tNotV, tAnd, tOr, tNot, tB, tIf, L2.start, tFor_eq, tLc_eq, iIL, iRL, iRng1, iRng2, iRng3, iEnR, iEnI, iZpR, iZpI, iStr, iTup, rIxI, rIxR, rIxRL, rIxK, rSlI, tSl, tNoPart, tPart, rInI, rNotInI, rInK, rInT, rInF, rInL, rLenI, rLenR, rLenA, rListI, rSortI', rAllB, rEqI, rNeI, rCatI, rCatS, tLM, rAppI, rAppR, rExtI, rIdxI, tLstI, tLstS, tFldT, sFldT, gUnI, gUnR, gTupT, gCons, gNil, sAugT, tTup, tLst, tCB, tAug, ipI, tPar, tM1, tMth, tMk, tRz, tRangeL, tYes, allInts, tupInts, allStrs, tupStrs, L2.rIsN, tIsN, rgV,
  List.map_cons, List.map_nil, List.length_cons, List.length_nil, Nat.zero_add, Nat.reduceAdd, Nat.reduceSub, Nat.reduceLeDiff, Nat.sub_zero, List.replicate_succ, List.replicate_zero, List.cons_append, List.nil_append, List.append_nil, List.set_cons_zero, List.set_cons_succ, List.getElem?_cons_zero, List.getElem?_cons_succ, Option.some.injEq, exists_and_left, exists_and_right, exists_eq_left', exists_eq_left, ex_il, ex_rl, ex_sl, lk_tok1, lk_tok2, lk_tok3, lk_tok4, lk_rdr1, lk_rdr2, lk_rdr3, lk_rdr4, lk_rdr5, lk_ply1, lk_ply2, lk_tbl1, lk_tbl2, lk_tbl3, lk_cal1, lk_cal2, lk_cal3, lk_dsk1, lk_dsk2, lk_dsk3, pt_rdr2, pt_dsk2, len_rdr, len_dsk, Nat.reduceLT, HO.lst.injEq, Int.zero_add, exists_eq, exists_eq', V.int.injEq, V.ref.injEq, V.bl.injEq, V.str.injEq, List.cons.injEq, HO.ins.injEq, HO.tup.injEq, il_inj, rl_inj, sl_inj, bl_inj, and_assoc, true_and, and_true, decide_eq_true_eq, Bool.not_eq_true', decide_eq_false_iff_not, reduceCtorEq, upd_same, upd_old, Option.isSome_some, Option.isSome_none, ite_true, ite_false, wipe])
section
variable {P : Program} {w : World} {K : PySem.W.Frag} {mg : Str → Option Value} {base : Heap} {A : Ads}
open Vbndal (executeOnTable isCardArgument isKeyArgument isRowArgument isCardList isOrderArgument inRange)
def ok13 (ns : List Int) (ls : List (List Int)) (c : Vbndal.Call) : Prop := ∃ ks l, ls = [ks, l] ∧ c = .auditDeal ks l
structure WAd (tb : Vbndal.Table) (ks : List Nat) (Ps : List (List Nat)) (rl : List Nat) (Z : Addr × Addr × Addr × Addr × Addr) (O b : Addr) (as : List Addr) (H : Hp) (j : Nat) (σ : L2.St) (H' : Hp) : Prop where
  s : Same H H'
  hb : H' b = some (RL as)
  hat : ∀ (i : Nat) (c : Addr), as[i]? = some c → H' c = some (IL (((nI rl).drop (tb.deck.length * i)).take tb.deck.length))
  e : ∃ (row : Addr) (rw_ : List Nat) (acc : List (List Nat)) (u v z : Option V), σ = [some (.ref Z.1), some (.ref Z.2.1), some (.ref Z.2.2.1), some (.ref Z.2.2.2.1), some (.ref Z.2.2.2.2), some (.int (nI tb.deck).length), some (.ref row), some (.ref O), u, v, z] ∧
    H' row = some (IL (nI rw_)) ∧ row ≠ O ∧ rw_.Nodup ∧ (∀ x ∈ rw_, Cm.IsC tb.prime x) ∧ rw_.length = tb.deck.length ∧ H' O = some (IL (nI acc.flatten)) ∧ acc.flatten.length ≤ 10 * j ∧
    Vbndal.auditDeal tb.prime 0 tb.deck (ks.zip Ps) = Cm.glue acc (Vbndal.auditDeal tb.prime j rw_ ((ks.zip Ps).drop j))
theorem fn_audit_deal (T : Txt K mg A) : FnF P w K mg base (L2.CX P w) 7 A.d11 ["table", "numbers", "rows"] (spD A ok13) := by
  refine T.d_audit_deal.fnX sc_audit_deal (fun vs H Q E h => by obtain ⟨_, _, _, _, _, _, _, _, rfl, _⟩ := h; rfl) (fun f cdv Ar outer s H vs Q E hr h => ⟨_, (pss_cons (ps_asg (pv 2) (pg_unR (n := 2) rfl (pgs_cons (pg_name (i := 3) sc_audit_deal.nd rfl (Or.inl rfl)) (pgs_cons (pg_name (i := 4) sc_audit_deal.nd rfl (Or.inl rfl)) pgs_nil)))) (pss_cons (ps_set (i := 5) sc_audit_deal.nd rfl (.inl rfl) (pe_callB len_I (by rfl) T.b_len (by decide +kernel) (pa_cons (pe_fldT T.c_Table.cl T.n_Table_deck (pv 0) rfl) pa_nil))) (pss_cons (ps_expr (pe_fn (fn_check_revealed T) (hr.mono (by decide)) (passes_call (takes_of rfl rfl rfl rfl) (fun _ _ _ _ h => h)) (pa_cons (pv 3) (pa_cons (pv 0) pa_nil)))) (pss_cons (ps_expr (pe_fn (fn_check_cards T) (hr.mono (by decide)) (passes_call (takes_of rfl rfl rfl rfl) (fun _ _ _ _ h => h)) (pa_cons (pv 4) (pa_cons (pe_op op_mul (pv 5) (pe_callB len_R (by rfl) T.b_len (by decide +kernel) (pa_cons (pe_fldT T.c_Table.cl T.n_Table_players (pv 0) rfl) pa_nil))) (pa_cons (pv 0) pa_nil))))) (pss_cons (ps_set (i := 6) sc_audit_deal.nd rfl (.inl rfl) (pe_fldT T.c_Table.cl T.n_Table_deck (pv 0) rfl)) (pss_cons (ps_set (i := 7) sc_audit_deal.nd rfl (.inl rfl) (pe_lst pa_nil)) (pss_cons (ps_for (passes_of rfl) rfl (pi_enR K (by rfl) T.b_enumerate (pa_cons (pe_fn (fn_parts_of T) (hr.mono (by decide)) pass0 (pa_cons (pv 4) (pa_cons (pv 5) pa_nil))) pa_nil)) (pg_tupT (n := 2) rfl (pgs_cons (pg_name (i := 8) sc_audit_deal.nd rfl (Or.inl rfl)) (pgs_cons (pg_name (i := 9) sc_audit_deal.nd rfl (Or.inl rfl)) pgs_nil))) (pss_cons (ps_set (i := 10) sc_audit_deal.nd rfl (.inl rfl) (pe_fn (fn_order_of T) (hr.mono (by decide)) pass0 (pa_cons (pv 6) (pa_cons (pe_ix ix_I (pv 3) (pv 8) (fun _ _ => rfl)) (pa_cons (pv 9) (pa_cons (pe_fldT T.c_Table.cl T.n_Table_prime (pv 0) rfl) pa_nil)))))) (pss_cons (ps_if (pt_cmpR op_isN1 (pv 10) pe_non (nomark _)) (pss_one (ps_ret (pe_lstI (pa_cons pe_int (pa_cons (pv 8) (pa_cons (pe_fn (fn_errors_of T) (hr.mono (by decide)) pass0 (pa_cons (pv 6) (pa_cons (pe_ix ix_I (pv 3) (pv 8) (fun _ _ => rfl)) (pa_cons (pv 9) (pa_cons (pe_fldT T.c_Table.cl T.n_Table_prime (pv 0) rfl) pa_nil))))) pa_nil)))))) pss_nil) (pss_cons (ps_expr (pe_lm PySem.F.plainAttrs_list PySem.F.slot_list_extend PySem.F.type_list_extend ext_I (pv 7) (pa_cons (pv 10) pa_nil))) (pss_one (ps_set (i := 6) sc_audit_deal.nd rfl (.inl rfl) (pv 9))))))) (pss_one (ps_ret (pe_op op_catI (pe_lstI (pa_cons pe_int pa_nil)) (pv 7))))))))))), ?_⟩)
  obtain ⟨t, n, rs, tb, ns, as, ls, c, rfl, hT, ok, hn, hrs, hp, hl, ⟨ks, l, rfl, rfl⟩, q⟩ := h
  obtain ⟨dx, da, la, ps, h1, h2, h3, h4⟩ := id hT
  cases hp with
  | @cons a0 _ _ _ g1 g2 =>
  cases g2 with
  | @cons a1 _ _ _ g3 g4 =>
  cases g4
  have hlen := paired_len h4
  have hd2 := ok.d2
  have hd10 := ok.d10
  have hp4 := ok.p4
  have hrv : Vbndal.areRevealedKeys tb ks = (decide (ks.length = tb.players.length) && ks.all (isKe tb.prime)) := by
    unfold Vbndal.areRevealedKeys
    rw [allk_arg, Bool.beq_eq_decide_eq]
  simp only [executeOnTable, hrv, list_arg tb ok.hP] at q
  walk_at "rd"
  refine ⟨a0, t, ks, tb, rfl, g1, hT, ok, fun b2 => ?_, fun b2 => q.no (by rw [b2]; rfl) (by decide)⟩
  have hmul : ((nI tb.deck).length : Int) * (ps.length : Int) = ((tb.deck.length * tb.players.length : Nat) : Int) := by
    rw [nI_len, hlen]
    push_cast
    rfl
  refine ⟨_, _, h1, _, rfl, _, rfl, _, h3, .inl ⟨by omega, by rw [nI_len]; omega⟩, a1, t, l, tb.deck.length * tb.players.length, tb, by rw [hmul], g3, hT, ok.hP, fun b3 => ?_, fun b3 => q.no (by rw [b2, b3]; rfl) (by decide)⟩
  rw [b2, b3] at q
  rw [Bool.and_eq_true, decide_eq_true_eq] at b2 b3
  obtain ⟨ks, rfl, hks⟩ := all_ke b2.2
  obtain ⟨rl, rfl, hrc⟩ := all_ca ok.hP b3.2
  have l2 := b2.1
  have l3 := b3.1
  rw [nI_len] at l2 l3
  rw [nats_nI, nats_nI, Cm.split_eq] at q
  refine ⟨_, _, h1, _, rfl, Nat.zero_le _, fun O hO => ?_⟩
  have s1 := Same.new (o := .lst []) hO
  refine ⟨a1, nI rl, tb.deck.length, tb.players.length, by rw [nI_len], s1 _ _ g3, by omega, by omega, by rw [nI_len]; exact l3, by omega, fun H2 b as s2 hb hal hat hbn => ?_⟩
  have s12 := s1.trans s2
  refine ⟨b, rfl, ⟨_, hb⟩, ?_⟩
  have hbO : b ≠ O := fun e => by rw [e, upd_same] at hbn; cases hbn
  have hcO : ∀ i c, as[i]? = some c → c ≠ O := fun i c h e => by
    have := (hat i c h).2
    rw [e, upd_same] at this
    cases this
  generalize hps : ((List.range tb.players.length).map fun i => Cm.part tb.deck.length i rl) = Ps at q
  have hpl : Ps.length = tb.players.length := by rw [← hps, List.length_map, List.length_range]
  have hpget : ∀ i, i < tb.players.length → Ps[i]? = some (Cm.part tb.deck.length i rl) := fun i hi => by
    rw [← hps, List.getElem?_map, List.getElem?_range hi]
    rfl
  have hnpart : ∀ i, ((nI rl).drop (tb.deck.length * i)).take tb.deck.length = nI (Cm.part tb.deck.length i rl) := fun i => by
    unfold Cm.part nI
    rw [List.map_take, List.map_drop]
  have hplen : ∀ i, i < tb.players.length → (Cm.part tb.deck.length i rl).length = tb.deck.length := fun i hi => by
    unfold Cm.part
    rw [List.length_take, List.length_drop, l3]
    have := Nat.mul_le_mul_left tb.deck.length (show i + 1 ≤ tb.players.length from hi)
    rw [Nat.mul_add, Nat.mul_one] at this
    omega
  have hpc : ∀ i, ∀ x ∈ Cm.part tb.deck.length i rl, Cm.IsC tb.prime x := fun i x hx => hrc x (List.mem_of_mem_drop (List.mem_of_mem_take hx))
  refine for_w walk_enR (WAd tb ks Ps rl (t, n, rs, a0, a1) O b as H) ⟨s12, hb, fun i c h => (hat i c h).1, da, tb.deck, [], none, none, none, rfl, s12 _ _ h2, ne_of_none h2 hO, ok.dnd, ok.deck, rfl, s2 _ _ upd_same, Nat.zero_le _, by rw [List.drop_zero]; cases Vbndal.auditDeal tb.prime 0 tb.deck (ks.zip Ps) <;> rfl⟩ (fun j σ H' _ hh => hh.hb) (fun j x σ H6 H7 hlt hh y => ?_) fun σ H6 hh => ?_
  · obtain ⟨S6, hb6, hat6, row, rw_, acc, u, v, z, rfl, hrow, hrO, hnd, hcs, hrl, hOv, hal2, heq⟩ := hh
    obtain ⟨T, pa, hpa, rfl, hTn, rfl⟩ := y
    have hj : j < tb.players.length := by omega
    have sT := Same.new (o := .tup [.int (j : Nat), .ref pa]) hTn
    have S7 := S6.trans sT
    have e1 := S7 _ _ h1
    have e2 := S7 _ _ g1
    have e3 := sT _ _ hrow
    have e4 := sT _ _ (hat6 j pa hpa)
    have e5 := sT _ _ hOv
    rw [hnpart] at e4
    obtain ⟨k, hk⟩ : ∃ k, ks[j]? = some k := ⟨ks[j]'(by omega), List.getElem?_eq_getElem (by omega)⟩
    have hkv : (nI ks).getD ((j : Nat) : Int).toNat 0 = ((k : Nat) : Int) := by
      rw [Int.toNat_natCast, nI_getD, List.getD_eq_getElem?_getD, hk]
      rfl
    have ck := hks k (mem_of_get hk)
    have hzz : (ks.zip Ps)[j]? = some (k, Cm.part tb.deck.length j rl) := List.getElem?_zip_eq_some.mpr ⟨hk, hpget j hj⟩
    rw [drop_more hzz] at heq
    have hnl := Cm.lock_nodup ok.hP ck hcs hnd
    have hro : RowOk tb.prime k rw_ (Cm.part tb.deck.length j rl) := ⟨ok.hP, ck, hnl, by omega, by rw [hplen j hj, hrl]⟩
    walk_at "rd"
    refine ⟨by omega, by omega, row, pa, rw_, Cm.part tb.deck.length j rl, k, tb.prime, rfl, hro, e3, e4, fun o ho H8 c s8 hc => ?_, fun ho H8 s8 => ?_⟩
    · dsimp only
      rw [if_neg (fun z => nomatch z)]
      have hO8 := s8 _ _ e5
      have hol := order_len ho
      refine ⟨⟨_, hO8⟩, c, rfl, _, hO8, _, hc, by rw [nI_len, nI_len, sizeLine_eq]; omega, ?_⟩
      rw [← nI_app]
      have hperm := Cm.order_perm hnl (by rw [hplen j hj, hrl]) ho
      refine ⟨Same.mut (S7.trans s8) hO, by rw [upd_ne hbO]; exact s8 _ _ (sT _ _ hb6), fun i c h => by rw [upd_ne (hcO i c h)]; exact s8 _ _ (sT _ _ (hat6 i c h)), pa, Cm.part tb.deck.length j rl, acc ++ [o], _, _, _, rfl, by rw [upd_ne (hcO j pa hpa)]; exact s8 _ _ e4, hcO j pa hpa, hperm.nodup_iff.mp hnl, hpc j, hplen j hj, ?_, ?_, heq.trans (Cm.ad_yes ho)⟩
      · rw [upd_same, List.flatten_append]
        simp
      · have : [o].flatten.length = o.length := by simp
        rw [List.flatten_append, List.length_append, this]
        omega
    · dsimp only
      rw [if_pos rfl]
      refine ⟨_, s8 _ _ e2, by omega, by rw [nI_len]; omega, _, _, s8 _ _ e1, _, rfl, row, pa, rw_, Cm.part tb.deck.length j rl, k, tb.prime, by rw [hkv], hro, s8 _ _ e3, s8 _ _ e4, fun H9 s9 => ⟨rfl, fun p hp => ?_⟩⟩
      refine q.out ?_ (((S7.trans s8).trans s9).trans (Same.new hp)) upd_same (by show 3 ≤ 5000; decide)
      rw [heq, Cm.ad_no ho]
      rfl
  · obtain ⟨S6, hb6, hat6, row, rw_, acc, u, v, z, rfl, hrow, hrO, hnd, hcs, hrl, hOv, hal2, heq⟩ := hh
    rw [hal, List.drop_eq_nil_of_le (by rw [List.length_zip]; omega)] at heq
    have heq : Vbndal.auditDeal tb.prime 0 tb.deck (ks.zip Ps) = .valid (acc ++ []) := heq
    rw [List.append_nil] at heq
    walk_at "rd"
    intro p hp
    refine ⟨_, Same.new hp _ _ hOv, by rw [nI_len, sizeLine_eq]; omega, fun p2 hp2 => ?_⟩
    refine q.out ?_ ((S6.trans (Same.new hp)).trans (Same.new hp2)) upd_same (by rw [List.length_cons, nI_len]; omega)
    rw [heq]
    rfl
def ok14 (ns : List Int) (ls : List (List Int)) (c : Vbndal.Call) : Prop := ∃ l r sh, ls = [l, r, sh] ∧ c = .remainingOrders l r sh
/-- the shown keys, decoded -/
def shownOf : List Int → List Vbndal.ShownKey
  | i :: k :: l => ⟨i.toNat, k.toNat⟩ :: shownOf l
  | _ => []
theorem shown_dec (t : Vbndal.Table) (n : Nat) : ∀ l : List Int, Vbndal.decodeShown t n l = if (decide (l.length % 2 = 0) && ((evens l).all (fun x => decide (0 ≤ x ∧ x < (n : Int))) && (odds l).all (isKe t.prime))) = true then some (shownOf l) else none
  | [] => rfl
  | [i] => rfl
  | i :: k :: l => by
    unfold Vbndal.decodeShown
    rw [shown_dec t n l, ke_arg, pos_eq]
    rw [show evens (i :: k :: l) = i :: evens l from rfl, show odds (i :: k :: l) = k :: odds l from rfl]
    rw [List.all_cons, List.all_cons, List.length_cons, List.length_cons, show l.length + 1 + 1 = l.length + 2 from rfl, Nat.add_mod_right]
    cases decide (0 ≤ i ∧ i < (n : Int)) <;> cases isKe t.prime k <;> cases decide (l.length % 2 = 0) <;> cases (evens l).all (fun x => decide (0 ≤ x ∧ x < (n : Int))) <;> cases (odds l).all (isKe t.prime) <;> rfl
theorem shown_pos : ∀ l : List Int, l.length % 2 = 0 → (∀ x ∈ evens l, 0 ≤ x) → nI ((shownOf l).map fun x => x.position) = evens l
  | [], _, _ => rfl
  | [i], h, _ => by simp at h
  | i :: k :: l, h, h2 => by
    unfold shownOf evens
    unfold evens at h2
    rw [List.map_cons]
    have := shown_pos l (by simp at h; omega) fun x hx => h2 x (List.mem_cons_of_mem _ hx)
    have h0 := h2 i (List.mem_cons_self ..)
    show ((i.toNat : Nat) : Int) :: nI ((shownOf l).map fun x => x.position) = _
    rw [this]
    congr 1
    omega
theorem shown_key : ∀ l : List Int, l.length % 2 = 0 → (∀ x ∈ odds l, 0 ≤ x) → nI ((shownOf l).map fun x => x.key) = odds l
  | [], _, _ => rfl
  | [i], h, _ => by simp at h
  | i :: k :: l, h, h2 => by
    unfold shownOf odds
    unfold odds at h2
    rw [List.map_cons]
    have := shown_key l (by simp at h; omega) fun x hx => h2 x (List.mem_cons_of_mem _ hx)
    have h0 := h2 k (List.mem_cons_self ..)
    show ((k.toNat : Nat) : Int) :: nI ((shownOf l).map fun x => x.key) = _
    rw [this]
    congr 1
    omega
def ov : Option Nat → V
  | none => .non
  | some i => .int (i : Nat)
theorem ov_flat (l : List (Option Nat)) : (l.map ov).all flatV = true := by
  rw [List.all_map, List.all_eq_true]
  intro x _
  cases x <;> rfl
theorem ov_none {l : List (Option Nat)} : inV .non (l.map ov) = true ↔ none ∈ l := by
  unfold inV
  rw [List.any_map, List.any_eq_true]
  constructor
  · rintro ⟨x, hx, e⟩
    cases x with
    | none => exact hx
    | some i => exact absurd e (by simp [ov, eqV])
  · exact fun h => ⟨none, h, rfl⟩
theorem zp_same {ns ms : List Int} (i : Nat) (H : Hp) (x : V) (H' : Hp) (h : ∃ T n m, ns[i]? = some n ∧ ms[i]? = some m ∧ x = .ref T ∧ H T = none ∧ H' = upd H T (.tup [.int n, .int m])) : Same H H' := by
  obtain ⟨T, n, m, _, _, _, h1, rfl⟩ := h
  exact Same.new h1
theorem fn_remaining_orders (T : Txt K mg A) : FnF P w K mg base (L2.CX P w) 6 A.d12 ["table", "numbers", "rows"] (spD A ok14) := by
  refine T.d_remaining_orders.fnX sc_remaining_orders (fun vs H Q E h => by obtain ⟨_, _, _, _, _, _, _, _, rfl, _⟩ := h; rfl) (fun f cdv Ar outer s H vs Q E hr h => ⟨_, (pss_cons (ps_asg (pv 2) (pg_unR (n := 3) rfl (pgs_cons (pg_name (i := 3) sc_remaining_orders.nd rfl (Or.inr rfl)) (pgs_cons (pg_name (i := 4) sc_remaining_orders.nd rfl (Or.inr rfl)) (pgs_cons (pg_name (i := 5) sc_remaining_orders.nd rfl (Or.inl rfl)) pgs_nil))))) (pss_cons (ps_expr (pe_fn (fn_check_row T) (hr.mono (by decide)) (passes_call (takes_of rfl rfl rfl rfl) (fun _ _ _ _ h => h)) (pa_cons (pv 3) (pa_cons (pv 0) pa_nil)))) (pss_cons (ps_expr (pe_fn (fn_check_cards T) (hr.mono (by decide)) (passes_call (takes_of rfl rfl rfl rfl) (fun _ _ _ _ h => h)) (pa_cons (pv 4) (pa_cons (pe_callB len_I (by rfl) T.b_len (by decide +kernel) (pa_cons (pv 3) pa_nil)) (pa_cons (pv 0) pa_nil))))) (pss_cons (ps_expr (pe_fn (fn_check_shown T) (hr.mono (by decide)) (passes_call (takes_of rfl rfl rfl rfl) (fun _ _ _ _ h => h)) (pa_cons (pv 5) (pa_cons (pe_callB len_I (by rfl) T.b_len (by decide +kernel) (pa_cons (pv 3) pa_nil)) (pa_cons (pv 0) pa_nil))))) (pss_cons (ps_setLc (i := 6) (own := [("position", 8), ("key", 9)]) (tt := tYes) rfl sc_remaining_orders.nd rfl rfl (sw_true rfl rfl rfl (by decide +kernel)) (pi_zpI K (by rfl) T.b_zip (pa_cons (pe_stepI (pv 5) po_none) (pa_cons (pe_stepI (pv 5) (po_some pe_int)) pa_nil))) (blkOk_by (N := ["table", "numbers", "rows", "row", "cards", "shown", "places", "count", "position", "key"]) (sc := defScope s_remaining_orders) (by decide +kernel)) (fun _ _ _ _ _ => by exact (pg_tupT (n := 2) rfl (pgs_cons (pg_name (i := 8) sc_remaining_orders.nd rfl (Or.inl rfl)) (pgs_cons (pg_name (i := 9) sc_remaining_orders.nd rfl (Or.inl rfl)) pgs_nil)))) (fun _ _ _ _ _ => pts_nil) (fun _ _ _ _ _ => (pe_fn (fn_opened_place T) (hr.mono (by decide)) pass0 (pa_cons (pv 3) (pa_cons (pv 9) (pa_cons (pe_ix ix_I (pv 4) (pv 8) (fun _ _ => rfl)) (pa_cons (pe_fldT T.c_Table.cl T.n_Table_prime (pv 0) rfl) pa_nil))))))) (pss_cons (ps_if (pt_cmpR op_inF pe_non (pv 6) (by rfl)) (pss_one (ps_ret (pe_lstI (pa_cons pe_int pa_nil)))) pss_nil) (pss_cons (ps_set (i := 7) sc_remaining_orders.nd rfl (.inl rfl) (pe_ifExp (pt_val (pe_fn (fn_are_different T) (hr.mono (by decide)) pass0 (pa_cons (pv 6) pa_nil))) (pe_fn (fn_factorial_of T) (hr.mono (by decide)) pass0 (pa_cons (pe_op op_sub (pe_callB len_I (by rfl) T.b_len (by decide +kernel) (pa_cons (pv 3) pa_nil)) (pe_callB len_A (by rfl) T.b_len (by decide +kernel) (pa_cons (pv 6) pa_nil))) pa_nil)) pe_int)) (pss_one (ps_ret (pe_op op_catI (pe_lstI (pa_cons (pv 7) pa_nil)) (pv 6))))))))))), ?_⟩)
  obtain ⟨t, n, rs, tb, ns, as, ls, c, rfl, hT, ok, hn, hrs, hp, hl, ⟨l, r, sh, rfl, rfl⟩, q⟩ := h
  obtain ⟨dx, da, la, ps, h1, h2, h3, h4⟩ := id hT
  cases hp with
  | @cons a0 _ _ _ g1 g2 =>
  cases g2 with
  | @cons a1 _ _ _ g3 g4 =>
  cases g4 with
  | @cons a2 _ _ _ g5 g6 =>
  cases g6
  have hl1 := hl l (by simp)
  have hl3 := hl sh (by simp)
  simp only [executeOnTable, row_arg2 tb ok.hP, list_arg tb ok.hP] at q
  walk_at "rd"
  refine ⟨a0, t, l, tb, rfl, g1, by omega, hT, ok.hP, fun b1 H1 s1 => ?_, fun b1 => q.no (by rw [b1]; rfl) (by decide)⟩
  obtain ⟨l, rfl, hlc, hln, hll1, hll2⟩ := row_of ok.hP b1
  refine ⟨_, s1 _ _ g1, a1, t, r, l.length, tb, by rw [nI_len], s1 _ _ g3, hT.mono s1, ok.hP, fun b2 => ?_, fun b2 => RefE.mono (q.no (by rw [b1, nI_len, b2]; rfl) (by decide)) s1⟩
  rw [b1, nI_len, b2] at q
  rw [Bool.and_eq_true, decide_eq_true_eq] at b2
  obtain ⟨r, rfl, hrc⟩ := all_ca ok.hP b2.2
  have l2 := b2.1
  rw [nI_len] at l2
  rw [nats_nI, nats_nI, shown_dec] at q
  refine ⟨_, s1 _ _ g1, a2, t, sh, l.length, tb, by rw [nI_len], s1 _ _ g5, hl3, hT.mono s1, ok.hP, fun b3 H2 s2 => ?_, fun b3 => RefE.mono (q.no ?_ (by decide)) s1⟩
  · have b3' := b3
    unfold shownB at b3
    rw [Bool.and_eq_true, Bool.and_eq_true, Bool.and_eq_true, decide_eq_true_eq, decide_eq_true_eq] at b3
    obtain ⟨⟨v1, v2⟩, v3, v4⟩ := b3
    rw [v3, v4, decide_eq_true v1] at q
    have w1 := shown_pos sh v1 fun x hx => (of_decide_eq_true (List.all_eq_true.mp v3 x hx)).1
    have w2 := shown_key sh v1 fun x hx => by
      obtain ⟨k, rfl, _⟩ := ke_of (List.all_eq_true.mp v4 x hx)
      omega
    have w3 : ∀ s ∈ shownOf sh, s.position < l.length ∧ Cm.IsK tb.prime s.key := fun s hs => by
      constructor
      · have : ((s.position : Nat) : Int) ∈ evens sh := by
          rw [← w1]
          exact nI_mem.mpr (List.mem_map.mpr ⟨s, hs, rfl⟩)
        have := of_decide_eq_true (List.all_eq_true.mp v3 _ this)
        omega
      · have : ((s.key : Nat) : Int) ∈ odds sh := by
          rw [← w2]
          exact nI_mem.mpr (List.mem_map.mpr ⟨s, hs, rfl⟩)
        have := List.all_eq_true.mp v4 _ this
        rw [isKe_key] at this
        exact Cm.isK_iff.mp this
    have w4 : ((shownOf sh).map fun x => x.position).eraseDups.length = (shownOf sh).length := by
      rw [← w1, nodup_nI] at v2
      have := (Cm.ed_nodup _).mpr v2
      rw [List.length_map] at this
      exact this
    have w5 : (shownOf sh).length ≤ 60 := by
      have := ev_len sh
      rw [← w1, nI_len, List.length_map] at this
      omega
    have s12 := s1.trans s2
    refine ⟨sh, s12 _ _ g5, ?_⟩
    rw [step_ev, ← w1]
    intro p1 hp1
    refine ⟨sh, Same.new hp1 _ _ (s12 _ _ g5), ?_⟩
    rw [step_od, ← w2]
    intro p2 hp2
    have f1 := Same.new (o := IL (nI ((shownOf sh).map fun x => x.key))) hp2 _ _ (upd_same (H := H2) (a := p1) (o := IL (nI ((shownOf sh).map fun x => x.position))))
    have s14 := (s12.trans (Same.new (o := IL (nI ((shownOf sh).map fun x => x.position))) hp1)).trans (Same.new (o := IL (nI ((shownOf sh).map fun x => x.key))) hp2)
    have f2 : (upd (upd H2 p1 (IL (nI ((shownOf sh).map fun x => x.position)))) p2 (IL (nI ((shownOf sh).map fun x => x.key)))) p2 = some (IL (nI ((shownOf sh).map fun x => x.key))) := upd_same
    generalize upd (upd H2 p1 (IL (nI ((shownOf sh).map fun x => x.position)))) p2 (IL (nI ((shownOf sh).map fun x => x.key))) = H3 at f1 f2 s14 ⊢
    refine ⟨⟨_, f1⟩, fun D hD => ?_⟩
    have hll : (nI ((shownOf sh).map fun x => x.position)).length = (shownOf sh).length ∧ (nI ((shownOf sh).map fun x => x.key)).length = (shownOf sh).length := by
      rw [nI_len, nI_len, List.length_map, List.length_map]
      exact ⟨rfl, rfl⟩
    refine lc_fm walk_zpI (fun i => some (ov (((shownOf sh).map (Cm.place tb.prime l r)).getD i none))) hD (by omega) (fun H s => ⟨s _ _ f1, s _ _ f2⟩) (fun i x H4 H5 C C' hi s4 y s5 c c' => ?_) zp_same fun H4 s4 e => ?_
    · obtain ⟨T, a, b, ha, hb, rfl, hTn, rfl⟩ := y
      have hi' : i < (shownOf sh).length := by omega
      obtain ⟨s, hs⟩ : ∃ s, (shownOf sh)[i]? = some s := ⟨(shownOf sh)[i], List.getElem?_eq_getElem hi'⟩
      have ea : a = ((s.position : Nat) : Int) := by
        unfold nI at ha
        rw [List.getElem?_map, List.getElem?_map, hs] at ha
        exact (Option.some.inj ha).symm
      have eb : b = ((s.key : Nat) : Int) := by
        unfold nI at hb
        rw [List.getElem?_map, List.getElem?_map, hs] at hb
        exact (Option.some.inj hb).symm
      subst ea
      subst eb
      obtain ⟨u1, u2⟩ := w3 s (mem_of_get hs)
      have S := s14.trans s5
      have k1 := S _ _ h1
      have k2 := S _ _ g1
      have k3 := S _ _ g3
      have hpos : ((s.position : Nat) : Int) < ((nI r).length : Int) := by rw [nI_len]; omega
      have hv : (nI r).getD ((s.position : Nat) : Int).toNat 0 = ((r.getD s.position 0 : Nat) : Int) := by rw [Int.toNat_natCast, nI_getD]
      have hpl : ((shownOf sh).map (Cm.place tb.prime l r)).getD i none = Cm.place tb.prime l r s := by
        rw [List.getD_eq_getElem?_getD, List.getElem?_map, hs]
        rfl
      rw [hpl] at c
      walk_at "rd"
      refine ⟨by omega, by omega, a0, l, s.key, r.getD s.position 0, tb.prime, rfl, ok.hP, k_small ok.hP u2, k2, by omega, fun i hi H6 s6 => ?_, fun hi H6 s6 => ?_⟩
      · have hi : Cm.place tb.prime l r s = some i := hi
        rw [hi] at c
        exact c _ _ rfl s6
      · have hi : Cm.place tb.prime l r s = none := hi
        rw [hi] at c
        exact c _ _ rfl s6
    · have e2 : H4 D = some (.lst (((shownOf sh).map (Cm.place tb.prime l r)).map ov)) := by
        rw [e, hll.1, hll.2, Nat.min_self, List.filterMap_eq_map']
        have := range_map_get ((shownOf sh).map (Cm.place tb.prime l r)) none ov
        rw [List.length_map] at this
        rw [this]
      have S := s14.trans s4
      generalize hpl : (shownOf sh).map (Cm.place tb.prime l r) = places at e2
      refine ⟨D, rfl, _, e2, rfl, ov_flat _, ?_⟩
      by_cases hz : none ∈ places
      · rw [if_pos (ov_none.mpr hz)]
        intro p hp
        refine q.out ?_ (S.trans (Same.new hp)) upd_same (by show 1 ≤ 5000; decide)
        rw [← hpl] at hz
        obtain ⟨s, hs, e⟩ := List.mem_map.mp hz
        simp only [Bool.and_self, if_true, w4, ne_eq, not_true_eq_false, if_false, Cm.oc_none ⟨s, hs, e⟩]
        rfl
      · rw [if_neg (fun z => hz (ov_none.mp z))]
        obtain ⟨o, ho⟩ := Cm.all_some places fun x hx z => hz (z ▸ hx)
        have hol : o.length = (shownOf sh).length := by
          have := congrArg List.length ho
          rw [← hpl, List.length_map, List.length_map] at this
          exact this.symm
        have hoc : Vbndal.openedCards tb.prime l r (shownOf sh) = some o := Cm.oc_some (hpl.trans ho)
        have e3 : H4 D = some (IL (nI o)) := by
          rw [e2, ho]
          unfold IL nI
          rw [List.map_map, List.map_map]
          rfl
        simp only [Bool.and_self, if_true, w4, ne_eq, not_true_eq_false, if_false, hoc] at q
        have hro : Vbndal.remainingOrders tb.prime l r (shownOf sh) = if o.Nodup then Vbndal.factorial (l.length - o.length) else 0 := by
          unfold Vbndal.remainingOrders
          rw [hoc]
          simp only []
          by_cases hn : o.Nodup
          · rw [if_pos hn, if_pos ((Cm.ed_nodup o).mpr hn)]
          · rw [if_neg hn, if_neg (fun z => hn ((Cm.ed_nodup o).mp z))]
        refine ⟨D, nI o, rfl, e3, by rw [nI_len]; omega, fun H5 s5 => ⟨_, rfl, ?_⟩⟩
        have S5 := S.trans s5
        have e5 := s5 _ _ e3
        by_cases hn : o.Nodup
        · rw [if_pos (decide_eq_true (nodup_nI.mpr hn))]
          rw [if_pos hn] at hro
          refine ⟨_, S5 _ _ g1, D, rfl, _, e5, _, rfl, by rw [nI_len, List.length_map, nI_len]; omega, by rw [nI_len, List.length_map, nI_len]; omega, rfl, fun p hp => ⟨D, rfl, _, Same.new hp _ _ e5, ?_, fun p2 hp2 => ?_⟩⟩
          · have hno := nI_len o
            rw [sizeLine_eq]
            show 1 + (nI o).length ≤ _
            omega
          · refine q.out ?_ ((S5.trans (Same.new hp)).trans (Same.new hp2)) upd_same ?_
            · rw [hro, nI_len, List.length_map, nI_len, show (((l.length : Nat) : Int) - ((o.length : Nat) : Int)).toNat = l.length - o.length by omega]
              rfl
            · have hno := nI_len o
              rw [List.length_append]
              show 1 + (nI o).length ≤ _
              omega
        · rw [if_neg (fun z => hn (nodup_nI.mp (of_decide_eq_true z)))]
          rw [if_neg hn] at hro
          intro p hp
          refine ⟨D, rfl, _, Same.new hp _ _ e5, by rw [nI_len, sizeLine_eq]; omega, fun p2 hp2 => ?_⟩
          refine q.out ?_ ((S5.trans (Same.new hp)).trans (Same.new hp2)) upd_same (by rw [List.length_cons, nI_len]; omega)
          rw [hro]
          rfl
  · by_cases v : (decide (sh.length % 2 = 0) && ((evens sh).all (fun x => decide (0 ≤ x ∧ x < (l.length : Int))) && (odds sh).all (isKe tb.prime))) = true
    · have v' := v
      rw [Bool.and_eq_true, Bool.and_eq_true, decide_eq_true_eq] at v'
      obtain ⟨v1, v3, v4⟩ := v'
      have w1 := shown_pos sh v1 fun x hx => (of_decide_eq_true (List.all_eq_true.mp v3 x hx)).1
      have hne : ¬ (evens sh).Nodup := fun z => by
        unfold shownB at b3
        rw [v3, v4, decide_eq_true v1, decide_eq_true z] at b3
        cases b3
      have : ((shownOf sh).map fun x => x.position).eraseDups.length ≠ (shownOf sh).length := fun z => by
        have z2 : ((shownOf sh).map fun x => x.position).eraseDups.length = ((shownOf sh).map fun x => x.position).length := by rw [z, List.length_map]
        exact hne (by rw [← w1]; exact nodup_nI.mpr ((Cm.ed_nodup _).mp z2))
      rw [if_pos v]
      simp only [if_pos this]
      rfl
    · rw [if_neg v]
      rfl
end
end Cl
set_option Elab.async false
set_option linter.all false
set_option maxRecDepth 100000
set_option maxHeartbeats 4000000
namespace Cl
open PySem PySem.Spec PyProof.Rows L2
local macro_rules | `(tactic| walk_at "rd") => `(tactic| try simp only [tSeq, tAsg, tVar, tC, tOp, tTest, tIfS, tNext, tRet, tDrop, gName, rI0, rI, rU, tUn, rEq_int, rNe_int, tFn, tFnS, tCons, tNil, tChain, tAndV, tOrV, tNotV, tAnd, tOr, tNot, tB, tIf, L2.start, tFor_eq, tLc_eq, iIL, iRL, iRng1, iRng2, iRng3, iEnR, iEnI, iZpR, iZpI, iStr, iTup, rIxI, rIxR, rIxRL, rIxK, rSlI, tSl, tNoPart, tPart, rInI, rNotInI, rInK, rInT, rInF, rInL, rLenI, rLenR, rLenA, rListI, rSortI', rAllB, rEqI, rNeI, rCatI, rCatS, tLM, rAppI, rAppR, rExtI, rIdxI, tLstI, tLstS, tFldT, sFldT, gUnI, gUnR, gTupT, gCons, gNil, sAugT, tTup, tLst, tCB, tAug, ipI, tPar, tM1, tMth, tMk, tRz, tRangeL, tYes, allInts, tupInts, allStrs, tupStrs, L2.rIsN, tIsN, rgV,
  List.map_cons, List.map_nil, List.length_cons, List.length_nil, Nat.zero_add, Nat.reduceAdd, Nat.reduceSub, Nat.reduceLeDiff, Nat.sub_zero, List.replicate_succ, List.replicate_zero, List.cons_append, List.nil_append, List.append_nil, List.set_cons_zero, List.set_cons_succ, List.getElem?_cons_zero, List.getElem?_cons_succ, Option.some.injEq, exists_and_left, exists_and_right, exists_eq_left', exists_eq_left, ex_il, ex_rl, ex_sl, lk_tok1, lk_tok2, lk_tok3, lk_tok4, lk_rdr1, lk_rdr2, lk_rdr3, lk_rdr4, lk_rdr5, lk_ply1, lk_ply2, lk_tbl1, lk_tbl2, lk_tbl3, lk_cal1, lk_cal2, lk_cal3, lk_dsk1, lk_dsk2, lk_dsk3, pt_rdr2, pt_dsk2, len_rdr, len_dsk, Nat.reduceLT, HO.lst.injEq, Int.zero_add, exists_eq, exists_eq', V.int.injEq, V.ref.injEq, V.bl.injEq, V.str.injEq, List.cons.injEq, HO.ins.injEq, HO.tup.injEq, il_inj, rl_inj, sl_inj, bl_inj, and_assoc, true_and, and_true, decide_eq_true_eq, Bool.not_eq_true', decide_eq_false_iff_not, reduceCtorEq, upd_same, upd_old, Option.isSome_some, Option.isSome_none, ite_true, ite_false, wipe, *])
local macro_rules | `(tactic| walk_at "r0") => `(tactic| try simp only [tSeq, tAsg, tVar, tC, tOp, tTest, tIfS, tNext, tRet, tDrop, gName, rI0, rI, rU, tUn, rEq_int, rNe_int, tFn, tFnS, tCons, tNil, tChain, tAndV, tOrV, tNotV, tAnd, tOr, tNot, tB, tIf, L2.start, tFor_eq, tLc_eq, iIL, iRL, iRng1, iRng2, iRng3, iEnR, iEnI, iZpR, iZpI, iStr, iTup, rIxI, rIxR, rIxRL, rIxK, rSlI, tSl, tNoPart, tPart, rInI, rNotInI, rInK, rInT, rInF, rInL, rLenI, rLenR, rLenA, rListI, rSortI', rAllB, rEqI, rNeI, rCatI, rCatS, tLM, rAppI, rAppR, rExtI, rIdxI, tLstI, tLstS, tFldT, sFldT, gUnI, gUnR, gTupT, gCons, gNil, sAugT, tTup, tLst, tCB, tAug, ipI, tPar, tM1, tMth, tMk, tRz, tRangeL, tYes, allInts, tupInts, allStrs, tupStrs, L2.rIsN, tIsN, rgV,
  List.map_cons, List.map_nil, List.length_cons, List.length_nil, Nat.zero_add, Nat.reduceAdd, Nat.reduceSub, Nat.reduceLeDiff, Nat.sub_zero, List.replicate_succ, List.replicate_zero, List.cons_append, List.nil_append, List.append_nil, List.set_cons_zero, List.set_cons_succ, List.getElem?_cons_zero, List.getElem?_cons_succ, Option.some.injEq, exists_and_left, exists_and_right, exists_eq_left', exists_eq_left, ex_il, ex_rl, ex_sl, lk_tok1, lk_tok2, lk_tok3, lk_tok4, lk_rdr1, lk_rdr2, lk_rdr3, lk_rdr4, lk_rdr5, lk_ply1, lk_ply2, lk_tbl1, lk_tbl2, lk_tbl3, lk_cal1, lk_cal2, lk_cal3, lk_dsk1, lk_dsk2, lk_dsk3, pt_rdr2, pt_dsk2, len_rdr, len_dsk, Nat.reduceLT, HO.lst.injEq, Int.zero_add, exists_eq, exists_eq', V.int.injEq, V.ref.injEq, V.bl.injEq, V.str.injEq, List.cons.injEq, HO.ins.injEq, HO.tup.injEq, il_inj, rl_inj, sl_inj, bl_inj, and_assoc, true_and, and_true, decide_eq_true_eq, Bool.not_eq_true', decide_eq_false_iff_not, reduceCtorEq, upd_same, upd_old, Option.isSome_some, Option.isSome_none, ite_true, ite_false, wipe])
section
variable {P : Program} {w : World} {K : PySem.W.Frag} {mg : Str → Option Value} {base : Heap} {A : Ads}
open Vbndal (executeOnTable)
/-! ### calls -/
def sp_cal (A : Ads) : Sp := fun vs H Q _ => ∃ (x dx : Addr) (o : Int) (n r : Addr), vs = [.ref x, .int o, .ref n, .ref r] ∧ H x = some (.ins A.cal dx []) ∧ Q .non (upd H x (.ins A.cal dx (calF o n r)))
theorem mk_Call (T : Txt K mg A) : MkAt P w K mg base 1 "Call" A.cal ["self", "operation", "numbers", "rows"] (sp_cal A) := by
  refine T.c_Call.mk_ sc_Call___init__ (fun vs H Q E h => by obtain ⟨_, _, _, _, _, rfl, _⟩ := h; rfl) (fun f cdv Ar outer s H vs Q E hr h => ⟨_, (pss_cons (ps_fldT T.c_Call.cl T.n_Call_operation (pv 0) (pv 1) rfl) (pss_cons (ps_fldT T.c_Call.cl T.n_Call_numbers (pv 0) (pv 2) rfl) (pss_one (ps_fldT T.c_Call.cl T.n_Call_rows (pv 0) (pv 3) rfl)))), ?_⟩)
  obtain ⟨x, dx, o, n, r, rfl, hx, q⟩ := h
  walk_at "rd"
  rw [upd_upd, upd_upd, pt_cal]
  exact ⟨(by show 1 < 1000; decide), (by show 2 < 1000; decide), q⟩
def sp_dsk (A : Ads) : Sp := fun vs H Q _ => ∃ (x dx : Addr), vs = [.ref x] ∧ H x = some (.ins A.dsk dx []) ∧ Q .non (upd H x (.ins A.dsk dx (dskF .non)))
theorem mk_Desk (T : Txt K mg A) : MkAt P w K mg base 1 "Desk" A.dsk ["self"] (sp_dsk A) := by
  refine T.c_Desk.mk_ sc_Desk___init__ (fun vs H Q E h => by obtain ⟨_, _, rfl, _⟩ := h; rfl) (fun f cdv Ar outer s H vs Q E hr h => ⟨_, (pss_one (ps_fldT T.c_Desk.cl T.n_Desk_table (pv 0) pe_non rfl)), ?_⟩)
  obtain ⟨x, dx, rfl, hx, q⟩ := h
  walk_at "rd"
  rw [pt_dsk]
  exact q
/-- a call in memory, all of it made behind H0 -/
def CallF (A : Ads) (H0 H : Hp) (a : Addr) (c : List (List Int)) : Prop := ∃ (dx n rs : Addr) (as : List Addr) (op : Int) (nums : List Int) (rows : List (List Int)), c = (op :: nums) :: rows ∧ H a = some (.ins A.cal dx (calF op n rs)) ∧ H n = some (IL nums) ∧ H rs = some (RL as) ∧ Paired (fun b l => H b = some (IL l) ∧ H0 b = none) as rows ∧ H0 a = none ∧ H0 n = none ∧ H0 rs = none
theorem CallF.up {A : Ads} {H0 H H' : Hp} {a : Addr} {c : List (List Int)} (s : ∀ b o, H0 b = none → H b = some o → H' b = some o) : CallF A H0 H a c → CallF A H0 H' a c := fun ⟨dx, n, rs, as, op, nums, rows, e, h1, h2, h3, h4, f1, f2, f3⟩ =>
  ⟨dx, n, rs, as, op, nums, rows, e, s _ _ f1 h1, s _ _ f2 h2, s _ _ f3 h3, L2.Paired.mapP h4 fun b l z => ⟨s _ _ z.2 z.1, z.2⟩, f1, f2, f3⟩
theorem CallF.back {A : Ads} {H0 H1 H : Hp} {a : Addr} {c : List (List Int)} (s : ∀ b, H1 b = none → H0 b = none) : CallF A H1 H a c → CallF A H0 H a c := fun ⟨dx, n, rs, as, op, nums, rows, e, h1, h2, h3, h4, f1, f2, f3⟩ =>
  ⟨dx, n, rs, as, op, nums, rows, e, h1, h2, h3, L2.Paired.mapP h4 fun b l z => ⟨z.1, s _ z.2⟩, s _ f1, s _ f2, s _ f3⟩
def numL : List V := [.int 0, .int 0, .int 0, .int 0, .int 0, .int 2, .int 2, .int 1, .int 0, .int 3, .int 1, .int 1, .int 1, .int 0, .int 0, .int 0, .int 1, .int 1, .int 2, .int 0]
def rowL : List V := [.int 1, .int 1, .int 0, .int 0, .int 0, .int 0, .int 0, .int 0, .int 1, .int 0, .int 2, .int 2, .int 1, .int 2, .int 3, .int 1, .int 1, .int 3, .int 0, .int 0]
theorem shape_at {p : Int} {n k : Nat} (h : PyVbndal.shape p = some (n, k)) : 0 ≤ p ∧ numL[p.toNat]? = some (.int n) ∧ rowL[p.toNat]? = some (.int k) ∧ n ≤ 3 ∧ k ≤ 3 := by
  by_cases hp : 0 ≤ p ∧ p < 20
  · obtain ⟨m, rfl⟩ : ∃ m : Nat, p = m := ⟨p.toNat, by omega⟩
    have hm : m < 20 := by omega
    match m, hm with
    | 0, _ =>
      rw [show PyVbndal.shape ((0 : Nat) : Int) = some (0, 1) by decide] at h
      cases h
      exact ⟨by decide, rfl, rfl, by decide, by decide⟩
    | 1, _ =>
      rw [show PyVbndal.shape ((1 : Nat) : Int) = some (0, 1) by decide] at h
      cases h
      exact ⟨by decide, rfl, rfl, by decide, by decide⟩
    | 2, _ =>
      rw [show PyVbndal.shape ((2 : Nat) : Int) = some (0, 0) by decide] at h
      cases h
      exact ⟨by decide, rfl, rfl, by decide, by decide⟩
    | 3, _ =>
      rw [show PyVbndal.shape ((3 : Nat) : Int) = some (0, 0) by decide] at h
      cases h
      exact ⟨by decide, rfl, rfl, by decide, by decide⟩
    | 4, _ =>
      rw [show PyVbndal.shape ((4 : Nat) : Int) = some (0, 0) by decide] at h
      cases h
      exact ⟨by decide, rfl, rfl, by decide, by decide⟩
    | 5, _ =>
      rw [show PyVbndal.shape ((5 : Nat) : Int) = some (2, 0) by decide] at h
      cases h
      exact ⟨by decide, rfl, rfl, by decide, by decide⟩
    | 6, _ =>
      rw [show PyVbndal.shape ((6 : Nat) : Int) = some (2, 0) by decide] at h
      cases h
      exact ⟨by decide, rfl, rfl, by decide, by decide⟩
    | 7, _ =>
      rw [show PyVbndal.shape ((7 : Nat) : Int) = some (1, 0) by decide] at h
      cases h
      exact ⟨by decide, rfl, rfl, by decide, by decide⟩
    | 8, _ =>
      rw [show PyVbndal.shape ((8 : Nat) : Int) = some (0, 1) by decide] at h
      cases h
      exact ⟨by decide, rfl, rfl, by decide, by decide⟩
    | 9, _ =>
      rw [show PyVbndal.shape ((9 : Nat) : Int) = some (3, 0) by decide] at h
      cases h
      exact ⟨by decide, rfl, rfl, by decide, by decide⟩
    | 10, _ =>
      rw [show PyVbndal.shape ((10 : Nat) : Int) = some (1, 2) by decide] at h
      cases h
      exact ⟨by decide, rfl, rfl, by decide, by decide⟩
    | 11, _ =>
      rw [show PyVbndal.shape ((11 : Nat) : Int) = some (1, 2) by decide] at h
      cases h
      exact ⟨by decide, rfl, rfl, by decide, by decide⟩
    | 12, _ =>
      rw [show PyVbndal.shape ((12 : Nat) : Int) = some (1, 1) by decide] at h
      cases h
      exact ⟨by decide, rfl, rfl, by decide, by decide⟩
    | 13, _ =>
      rw [show PyVbndal.shape ((13 : Nat) : Int) = some (0, 2) by decide] at h
      cases h
      exact ⟨by decide, rfl, rfl, by decide, by decide⟩
    | 14, _ =>
      rw [show PyVbndal.shape ((14 : Nat) : Int) = some (0, 3) by decide] at h
      cases h
      exact ⟨by decide, rfl, rfl, by decide, by decide⟩
    | 15, _ =>
      rw [show PyVbndal.shape ((15 : Nat) : Int) = some (0, 1) by decide] at h
      cases h
      exact ⟨by decide, rfl, rfl, by decide, by decide⟩
    | 16, _ =>
      rw [show PyVbndal.shape ((16 : Nat) : Int) = some (1, 1) by decide] at h
      cases h
      exact ⟨by decide, rfl, rfl, by decide, by decide⟩
    | 17, _ =>
      rw [show PyVbndal.shape ((17 : Nat) : Int) = some (1, 3) by decide] at h
      cases h
      exact ⟨by decide, rfl, rfl, by decide, by decide⟩
    | 18, _ =>
      rw [show PyVbndal.shape ((18 : Nat) : Int) = some (2, 0) by decide] at h
      cases h
      exact ⟨by decide, rfl, rfl, by decide, by decide⟩
    | 19, _ =>
      rw [show PyVbndal.shape ((19 : Nat) : Int) = some (0, 0) by decide] at h
      cases h
      exact ⟨by decide, rfl, rfl, by decide, by decide⟩
  · have : PyVbndal.shape p = none := by
      unfold PyVbndal.shape
      repeat rw [if_neg (by omega)]
    rw [this] at h
    cases h
theorem cutV_mid {ns : List Int} {a b : Nat} (h1 : a ≤ b) (h2 : b ≤ ns.length) : cutV (ns.map V.int) (some (a : Int)) (some (b : Int)) = ((ns.drop a).take (b - a)).map V.int := by
  rw [cut_map, cut_mid (by omega) (by omega) (by omega)]
  congr 2
  omega
def sp_readcall (K : PySem.W.Frag) (A : Ads) : Sp := fun vs H Q _ => ∃ (a : Addr) (ns : List Int) (i : Nat) (c : List (List Int)) (t : List Int), vs = [.ref a, .int i] ∧ SqL K H a (ns.map V.int) ∧ PyFlat.call PyVbndal.shape (ns.drop i) = some (c, t) ∧
  ∀ H' q cl j, Same H H' → H' q = some (.tup [.ref cl, .int (j : Nat)]) → CallF A H H' cl c → ns.drop j = t → i < j → j ≤ ns.length → Q (.ref q) H'
structure WRc (A : Ads) (a P R : Addr) (ns : List Int) (i k : Nat) (p : Int) (xs : List (List Int)) (t : List Int) (g : List Int) (H : Hp) (j : Nat) (σ : L2.St) (H' : Hp) : Prop where
  s : Same H H'
  g : H' P = some (IL g)
  e : ∃ (pl : Nat) (as : List Addr) (ys zs : List (List Int)) (u v : Option V), σ = [some (.ref a), some (.int i), some (.int p), some (.int pl), some (.ref P), some (.ref R), u, v] ∧ H' R = some (RL as) ∧
    Paired (fun b l => H' b = some (IL l) ∧ H b = none ∧ b ≠ R) as ys ∧ as.length = j ∧ PyFlat.rows (k - j) (ns.drop pl) = some (zs, t) ∧ xs = ys ++ zs ∧ i < pl ∧ pl ≤ ns.length
theorem fn_read_call (T : Txt K mg A) : FnAt P w K mg base CX0 3 "read_call" ["numbers", "at"] (sp_readcall K A) := by
  refine T.d_read_call.fn sc_read_call (fun vs H Q E h => by obtain ⟨_, _, _, _, _, rfl, _⟩ := h; rfl) (fun f cdv Ar outer s H vs Q E hr h => ⟨_, (pss_cons (ps_set (i := 2) sc_read_call.nd rfl (.inl rfl) (pe_ix ix_list (pv 0) (pv 1) (fun _ _ => rfl))) (pss_cons (ps_set (i := 3) sc_read_call.nd rfl (.inl rfl) (pe_op op_add (pe_op op_add (pv 1) pe_int) (pe_ix (ix_K T.k_NUMBERS) (pe_kt T.k_NUMBERS) (pv 2) (fun _ _ => rfl)))) (pss_cons (ps_set (i := 4) sc_read_call.nd rfl (.inl rfl) (pe_slice sl_list (pv 0) (po_some (pe_op op_add (pv 1) pe_int)) (po_some (pv 3)))) (pss_cons (ps_set (i := 5) sc_read_call.nd rfl (.inl rfl) (pe_lst pa_nil)) (pss_cons (ps_for PassesOwn.never rfl (pi_range1 (by rfl) T.b_range (pa_cons (pe_ix (ix_K T.k_ROWS) (pe_kt T.k_ROWS) (pv 2) (fun _ _ => rfl)) pa_nil)) (pg_name (i := 6) sc_read_call.nd rfl (Or.inl rfl)) (pss_cons (ps_set (i := 7) sc_read_call.nd rfl (.inl rfl) (pe_op op_add (pe_op op_add (pv 3) pe_int) (pe_ix ix_list (pv 0) (pv 3) (fun _ _ => rfl)))) (pss_cons (ps_expr (pe_lm PySem.F.plainAttrs_list PySem.F.slot_list_append PySem.F.type_list_append mt_append (pv 5) (pa_cons (pe_slice sl_list (pv 0) (po_some (pe_op op_add (pv 3) pe_int)) (po_some (pv 7))) pa_nil))) (pss_one (ps_set (i := 3) sc_read_call.nd rfl (.inl rfl) (pv 7)))))) (pss_one (ps_ret (pe_tup (pa_cons (pe_mk1 (mk_Call T) (hr.mono (by decide)) (pa_cons (pv 2) (pa_cons (pv 4) (pa_cons (pv 5) pa_nil)))) (pa_cons (pv 3) pa_nil)))))))))), ?_⟩)
  obtain ⟨a, ns, i, c, t, rfl, ha, hc, q⟩ := h
  obtain ⟨p, r, hd⟩ : ∃ p r, ns.drop i = p :: r := by
    cases e : ns.drop i with
    | nil =>
      rw [e] at hc
      cases hc
    | cons p r => exact ⟨p, r, rfl⟩
  rw [hd] at hc
  have hi : i < ns.length := by
    rcases Nat.lt_or_ge i ns.length with z | z
    · exact z
    · rw [List.drop_eq_nil_of_le z] at hd
      cases hd
  have hr : ns.drop (i + 1) = r := by
    rw [← List.drop_drop, hd]
    rfl
  have hrl : r.length = ns.length - (i + 1) := by rw [← hr, List.length_drop]
  have hg : ns.getD ((i : Nat) : Int).toNat 0 = p := by
    have : (ns.drop i)[0]? = some p := by rw [hd]; rfl
    rw [List.getElem?_drop] at this
    rw [Int.toNat_natCast, List.getD_eq_getElem?_getD]
    simp at this
    simp [this]
  cases hs : PyVbndal.shape p with
  | none =>
    unfold PyFlat.call at hc
    simp only [hs] at hc
    cases hc
  | some z =>
  obtain ⟨n, k⟩ := z
  obtain ⟨h0, hnum, hrow, hn3, hk3⟩ := shape_at hs
  unfold PyFlat.call at hc
  simp only [hs] at hc
  by_cases hn : r.length < n
  · rw [if_pos hn] at hc
    cases hc
  rw [if_neg hn] at hc
  cases hrw : PyFlat.rows k (r.drop n) with
  | none =>
    rw [hrw] at hc
    cases hc
  | some z =>
  obtain ⟨xs, t'⟩ := z
  rw [hrw] at hc
  cases hc
  walk_at "r0"
  refine ⟨a, _, (i : Int), _, rfl, rfl, ha, at_int (by omega) (by omega), ?_⟩
  rw [hg]
  refine ⟨p, rfl, h0, _, hnum, n, rfl, a, _, rfl, ha, ?_⟩
  have hcut : cutV (ns.map V.int) (some ((i : Int) + 1)) (some ((i : Int) + 1 + (n : Int))) = (r.take n).map V.int := by
    rw [show (i : Int) + 1 = ((i + 1 : Nat) : Int) by push_cast; rfl, show ((i + 1 : Nat) : Int) + (n : Int) = ((i + 1 + n : Nat) : Int) by push_cast; rfl, cutV_mid (by omega) (by omega), hr]
    congr 2
    omega
  rw [hcut]
  intro P hP
  refine ⟨Nat.zero_le _, fun R hR => ⟨p, rfl, h0, _, hrow, k, rfl, by omega, by omega, ?_⟩⟩
  rw [Int.toNat_natCast]
  have sP := Same.new (o := IL (r.take n)) hP
  have sR := Same.new (o := .lst []) hR
  have hHR := sP.free hR
  refine for_w walk_range (WRc A a P R ns i k p xs t (r.take n) H) ⟨sP.trans sR, sR _ _ upd_same, i + 1 + n, [], [], xs, none, none, ?_, upd_same, .nil, rfl, ?_, rfl, by omega, by omega⟩ (fun _ _ _ _ _ => trivial) (fun j x σ H6 H7 hlt hh y => ?_) fun σ H6 hh => ?_
  · congr 4
  · rw [Nat.sub_zero, ← hrw, ← hr, List.drop_drop]
  · obtain ⟨S6, hg6, pl, as, ys, zs, u, v, rfl, hR6, hpd, hal, hrs, hxs, hpl1, hpl2⟩ := hh
    obtain ⟨rfl, rfl⟩ := y
    obtain ⟨m, hm⟩ : ∃ m, k - j = m + 1 := ⟨k - j - 1, by omega⟩
    rw [hm] at hrs
    obtain ⟨y, r2, hd2⟩ : ∃ y r2, ns.drop pl = y :: r2 := by
      cases e : ns.drop pl with
      | nil =>
        rw [e] at hrs
        cases hrs
      | cons y r2 => exact ⟨y, r2, rfl⟩
    rw [hd2] at hrs
    unfold PyFlat.rows PyFlat.row at hrs
    simp only [] at hrs
    by_cases hy : 0 ≤ y ∧ y.toNat ≤ r2.length
    · rw [if_pos hy] at hrs
      obtain ⟨z, rfl⟩ : ∃ z : Nat, y = z := ⟨y.toNat, by omega⟩
      rw [Int.toNat_natCast] at hrs hy
      simp only [] at hrs
      cases hrw2 : PyFlat.rows m (r2.drop z) with
      | none =>
        rw [hrw2] at hrs
        cases hrs
      | some zz =>
      obtain ⟨zs2, t2⟩ := zz
      rw [hrw2] at hrs
      cases hrs
      have hpl3 : pl < ns.length := by
        rcases Nat.lt_or_ge pl ns.length with z | z
        · exact z
        · rw [List.drop_eq_nil_of_le z] at hd2
          cases hd2
      have hr2 : ns.drop (pl + 1) = r2 := by
        rw [← List.drop_drop, hd2]
        rfl
      have hrl2 : r2.length = ns.length - (pl + 1) := by rw [← hr2, List.length_drop]
      have hg2 : ns.getD ((pl : Nat) : Int).toNat 0 = ((z : Nat) : Int) := by
        have : (ns.drop pl)[0]? = some ((z : Nat) : Int) := by rw [hd2]; rfl
        rw [List.getElem?_drop] at this
        rw [Int.toNat_natCast, List.getD_eq_getElem?_getD]
        simp at this
        simp [this]
      walk_at "r0"
      refine ⟨a, _, (pl : Int), _, rfl, rfl, S6.seq ha, at_int (by omega) (by omega), ?_⟩
      rw [hg2]
      refine ⟨z, rfl, ⟨_, hR6⟩, a, _, rfl, S6.seq ha, ?_⟩
      have hcut2 : cutV (ns.map V.int) (some ((pl : Int) + 1)) (some ((pl : Int) + 1 + (z : Int))) = (r2.take z).map V.int := by
        rw [show (pl : Int) + 1 = ((pl + 1 : Nat) : Int) by push_cast; rfl, show ((pl + 1 : Nat) : Int) + (z : Int) = ((pl + 1 + z : Nat) : Int) by push_cast; rfl, cutV_mid (by omega) (by omega), hr2]
        congr 2
        omega
      rw [hcut2]
      intro B hB
      have sB := Same.new (o := IL (r2.take z)) hB
      have hBR : B ≠ R := fun e => by rw [e, hR6] at hB; cases hB
      have hPR : P ≠ R := fun e => by rw [← e] at hR; rw [upd_same] at hR; cases hR
      refine ⟨R, _, .ref B, rfl, rfl, sB _ _ hR6, by rw [List.length_map, sizeLine_eq]; omega, Same.mut (S6.trans sB) hHR, by rw [upd_ne hPR]; exact sB _ _ hg6, pl + 1 + z, as ++ [B], ys ++ [r2.take z], zs2, some (.int j), some (.int ((pl : Int) + 1 + (z : Int))), ?_, ?_, ?_, ?_, ?_, ?_, by omega, by omega⟩
      · congr 4
      · rw [upd_same]
        unfold RL
        rw [List.map_append]
        rfl
      · refine Paired.snoc ⟨by rw [upd_ne hBR]; exact upd_same, S6.free hB, hBR⟩ (L2.Paired.mapP hpd fun b l ⟨u1, u2, u3⟩ => ⟨by rw [upd_ne u3]; exact sB _ _ u1, u2, u3⟩)
      · rw [List.length_append, hal]
        rfl
      · rw [show k - (j + 1) = m by omega, ← hrw2, ← hr2, List.drop_drop]
      · rw [hxs, List.append_assoc]
        rfl
    · rw [if_neg hy] at hrs
      cases hrs
  · obtain ⟨S6, hg6, pl, as, ys, zs, u, v, rfl, hR6, hpd, hal, hrs, hxs, hpl1, hpl2⟩ := hh
    rw [Nat.sub_self] at hrs
    have hrs : some (([] : List (List Int)), ns.drop pl) = some (zs, t) := hrs
    cases hrs
    rw [List.append_nil] at hxs
    subst hxs
    walk_at "r0"
    intro x dx hx hdx hne
    have s8 := Same.mk hx hdx (o := .own x) (u := .ins A.cal dx []) (w := .ins A.cal dx (calF p P R))
    refine ⟨x, dx, p, P, R, rfl, upd_same, rfl, by rw [sizeLine_eq]; decide, fun T hT => ?_⟩
    have s9 := s8.trans (Same.new (o := .tup [.ref x, .int pl]) hT)
    refine q _ T x pl (S6.trans s9) upd_same ⟨dx, P, R, as, p, _, xs, rfl, (Same.new hT) _ _ upd_same, s9 _ _ hg6, s9 _ _ hR6, L2.Paired.mapP hpd fun b l ⟨u1, u2, u3⟩ => ⟨s9 _ _ u1, u2⟩, S6.free hx, hP, hHR⟩ rfl hpl1 hpl2
def sp_readcalls (K : PySem.W.Frag) (A : Ads) : Sp := fun vs H Q _ => ∃ (a : Addr) (ns : List Int) (cs : List (List (List Int))), vs = [.ref a] ∧ SqL K H a (ns.map V.int) ∧ ns.length ≤ 16000000 ∧ PyFlat.calls PyVbndal.shape ns.length ns = some cs ∧
  ∀ H' b as, Same H H' → H' b = some (RL as) → Paired (CallF A H H') as cs → H b = none → Q (.ref b) H'
theorem calls_fuel (sh : Int → Option (Nat × Nat)) : ∀ (f g : Nat) (l : List Int) (cs : List (List (List Int))), PyFlat.calls sh f l = some cs → f ≤ g → PyFlat.calls sh g l = some cs
  | _, 0, [], cs, h, _ => by
    unfold PyFlat.calls at h ⊢
    exact h
  | _, _ + 1, [], cs, h, _ => by
    unfold PyFlat.calls at h ⊢
    exact h
  | 0, _, p :: r, cs, h, _ => by
    unfold PyFlat.calls at h
    cases h
  | f + 1, 0, p :: r, cs, h, hl => absurd hl (by omega)
  | f + 1, g + 1, p :: r, cs, h, hl => by
    unfold PyFlat.calls at h ⊢
    cases e : PyFlat.call sh (p :: r) with
    | none =>
      rw [e] at h
      cases h
    | some z =>
      obtain ⟨c, t⟩ := z
      rw [e] at h
      simp only [] at h ⊢
      cases e2 : PyFlat.calls sh f t with
      | none =>
        rw [e2] at h
        cases h
      | some cs2 =>
        rw [e2] at h
        rw [calls_fuel sh f g t cs2 e2 (by omega)]
        exact h
structure WRcs (A : Ads) (a C : Addr) (ns : List Int) (cs : List (List (List Int))) (H : Hp) (m : Nat) (σ : L2.St) (H' : Hp) : Prop where
  s : Same H H'
  e : ∃ (i : Nat) (as : List Addr) (ys zs : List (List (List Int))) (v : Option V) (f : Nat), σ = [some (.ref a), some (.ref C), some (.int i), v] ∧ m = ns.length - i ∧ i ≤ ns.length ∧ H' C = some (RL as) ∧ Paired (fun b c => CallF A (upd H C (.lst [])) H' b c) as ys ∧ as.length ≤ i ∧ PyFlat.calls PyVbndal.shape f (ns.drop i) = some zs ∧ cs = ys ++ zs
theorem fn_read_calls (T : Txt K mg A) : FnAt P w K mg base CX0 4 "read_calls" ["numbers"] (sp_readcalls K A) := by
  refine T.d_read_calls.fn sc_read_calls (fun vs H Q E h => by obtain ⟨_, _, _, rfl, _⟩ := h; rfl) (fun f cdv Ar outer s H vs Q E hr h => ⟨_, (pss_cons (ps_set (i := 1) sc_read_calls.nd rfl (.inl rfl) (pe_lst pa_nil)) (pss_cons (ps_set (i := 2) sc_read_calls.nd rfl (.inl rfl) pe_int) (pss_cons (ps_while PassesOwn.never (pt_cmpR op_lt (pv 2) (pe_callB call_len_seq (by rfl) T.b_len (by decide +kernel) (pa_cons (pv 0) pa_nil)) (nomark _)) (pss_cons (ps_asg (pe_fn (fn_read_call T) (hr.mono (by decide)) pass0 (pa_cons (pv 0) (pa_cons (pv 2) pa_nil))) (pg_tupT (n := 2) rfl (pgs_cons (pg_name (i := 3) sc_read_calls.nd rfl (Or.inl rfl)) (pgs_cons (pg_name (i := 2) sc_read_calls.nd rfl (Or.inl rfl)) pgs_nil)))) (pss_one (ps_expr (pe_lm PySem.F.plainAttrs_list PySem.F.slot_list_append PySem.F.type_list_append app_R (pv 1) (pa_cons (pv 3) pa_nil)))))) (pss_one (ps_ret (pv 1)))))), ?_⟩)
  obtain ⟨a, ns, cs, rfl, ha, hl, hcs, q⟩ := h
  walk_at "r0"
  refine ⟨Nat.zero_le _, fun C hC => ?_⟩
  refine while_m (WRcs A a C ns cs H) ns.length ⟨Same.new hC, 0, [], [], cs, none, ns.length, rfl, rfl, Nat.zero_le _, upd_same, .nil, Nat.le_refl _, by rw [List.drop_zero]; exact hcs, rfl⟩ ?_
  rintro m σ H1 ⟨S1, i, as, ys, zs, v, f, rfl, rfl, hi, hC1, hpd, hal, hcz, hcs2⟩
  walk_at "r0"
  refine ⟨_, .inl (S1.seq ha), ?_⟩
  rw [List.length_map]
  split
  · rename_i h3
    have hi2 : i < ns.length := by omega
    obtain ⟨p, r, hd⟩ : ∃ p r, ns.drop i = p :: r := ⟨_, _, (List.getElem_cons_drop hi2).symm⟩
    match f, hcz with
    | 0, hcz =>
      rw [hd] at hcz
      unfold PyFlat.calls at hcz
      cases hcz
    | f + 1, hcz =>
    rw [hd] at hcz
    unfold PyFlat.calls at hcz
    cases e : PyFlat.call PyVbndal.shape (p :: r) with
    | none =>
      rw [e] at hcz
      cases hcz
    | some z =>
    obtain ⟨c, t⟩ := z
    rw [e] at hcz
    simp only [] at hcz
    cases e2 : PyFlat.calls PyVbndal.shape f t with
    | none =>
      rw [e2] at hcz
      cases hcz
    | some zs2 =>
    rw [e2] at hcz
    cases hcz
    refine ⟨fun σ H' => ∃ m', m' < ns.length - i ∧ WRcs A a C ns cs H m' σ H', fun _ _ h => h, a, ns, i, c, t, rfl, S1.seq ha, by rw [hd]; exact e, fun H2 T cl j s2 hT hcl hdt hij hjn => ?_⟩
    have hC2 := s2 _ _ hC1
    walk_at "r0"
    have hfree : ∀ b, H1 b = none → (upd H C (.lst [])) b = none := fun b hb => by
      have : b ≠ C := fun e => by rw [e, hC1] at hb; cases hb
      rw [upd_ne this]
      exact S1.free hb
    have keep1 : ∀ b o, H1 b = none → H2 b = some o → (upd H2 C (RL (as ++ [cl]))) b = some o := fun b o hb h => by
      have : b ≠ C := fun e => by rw [e, hC1] at hb; cases hb
      rw [upd_ne this]
      exact h
    have keep2 : ∀ b o, (upd H C (.lst [])) b = none → H1 b = some o → (upd H2 C (RL (as ++ [cl]))) b = some o := fun b o hb h => by
      have : b ≠ C := fun e => by rw [e, upd_same] at hb; cases hb
      rw [upd_ne this]
      exact s2 _ _ h
    refine ⟨_, hT, rfl, _, _, rfl, _, _, rfl, rfl, ⟨_, hC2⟩, _, _, rfl, hC2, by rw [sizeLine_eq]; omega, ns.length - j, by omega, Same.mut (S1.trans s2) hC, j, as ++ [cl], ys ++ [c], zs2, some (.ref cl), f, rfl, rfl, hjn, upd_same, Paired.snoc ((hcl.up keep1).back hfree) (L2.Paired.mapP hpd fun b l z => z.up keep2), by rw [List.length_append]; simp; omega, by rw [hdt]; exact e2, by rw [hcs2, List.append_assoc]; rfl⟩
  · rename_i h3
    have hi2 : i = ns.length := by omega
    rw [hi2, List.drop_length] at hcz
    have hcz : some ([] : List (List (List Int))) = some zs := by
      cases f <;> exact hcz
    cases hcz
    rw [List.append_nil] at hcs2
    subst hcs2
    refine q _ C as S1 hC1 (L2.Paired.mapP hpd fun b l z => z.back fun b hb => ?_) hC
    by_cases e : b = C
    · rw [e]
      exact hC
    · rw [upd_ne e] at hb
      exact hb
/-! ### the forms of the calls -/
def Wf (c : List (List Int)) : Prop := ∃ op nums rows, c = (op :: nums) :: rows ∧ PyVbndal.shape op = some (nums.length, rows.length)
theorem rows_len : ∀ (k : Nat) (l : List Int) (xs : List (List Int)) (t : List Int), PyFlat.rows k l = some (xs, t) → xs.length = k
  | 0, l, xs, t, h => by
    have h : some (([] : List (List Int)), l) = some (xs, t) := h
    cases h
    rfl
  | k + 1, l, xs, t, h => by
    unfold PyFlat.rows at h
    cases e : PyFlat.row l with
    | none =>
      rw [e] at h
      cases h
    | some z =>
      obtain ⟨x, u⟩ := z
      rw [e] at h
      simp only [] at h
      cases e2 : PyFlat.rows k u with
      | none =>
        rw [e2] at h
        cases h
      | some y =>
        obtain ⟨ys, v⟩ := y
        rw [e2] at h
        cases h
        rw [List.length_cons, rows_len k u ys _ e2]
theorem call_wf {l t : List Int} {c : List (List Int)} (h : PyFlat.call PyVbndal.shape l = some (c, t)) : Wf c := by
  cases l with
  | nil => cases h
  | cons p r =>
    unfold PyFlat.call at h
    cases hs : PyVbndal.shape p with
    | none =>
      simp only [hs] at h
      cases h
    | some z =>
      obtain ⟨n, k⟩ := z
      simp only [hs] at h
      by_cases hn : r.length < n
      · rw [if_pos hn] at h
        cases h
      rw [if_neg hn] at h
      cases hr : PyFlat.rows k (r.drop n) with
      | none =>
        rw [hr] at h
        cases h
      | some z =>
        obtain ⟨xs, u⟩ := z
        rw [hr] at h
        cases h
        refine ⟨p, r.take n, xs, rfl, ?_⟩
        rw [hs, rows_len _ _ _ _ hr, List.length_take, Nat.min_eq_left (by omega)]
theorem calls_wf : ∀ (f : Nat) (l : List Int) (cs : List (List (List Int))), PyFlat.calls PyVbndal.shape f l = some cs → ∀ c ∈ cs, Wf c
  | _, [], cs, h, c, hc => by
    unfold PyFlat.calls at h
    cases h
    cases hc
  | 0, p :: r, cs, h, c, hc => by
    unfold PyFlat.calls at h
    cases h
  | f + 1, p :: r, cs, h, c, hc => by
    unfold PyFlat.calls at h
    cases e : PyFlat.call PyVbndal.shape (p :: r) with
    | none =>
      rw [e] at h
      cases h
    | some z =>
      obtain ⟨c1, t⟩ := z
      rw [e] at h
      simp only [] at h
      cases e2 : PyFlat.calls PyVbndal.shape f t with
      | none =>
        rw [e2] at h
        cases h
      | some cs2 =>
        rw [e2] at h
        cases h
        rcases List.mem_cons.mp hc with rfl | hc
        · exact call_wf e
        · exact calls_wf f t cs2 e2 c hc
inductive Shp : List (List Int) → Prop
  | c0 (r0 : List Int) : Shp [[0], r0]
  | c1 (r0 : List Int) : Shp [[1], r0]
  | c2 : Shp [[2]]
  | c3 : Shp [[3]]
  | c4 : Shp [[4]]
  | c5 (x0 x1 : Int) : Shp [[5, x0, x1]]
  | c6 (x0 x1 : Int) : Shp [[6, x0, x1]]
  | c7 (x0 : Int) : Shp [[7, x0]]
  | c8 (r0 : List Int) : Shp [[8], r0]
  | c9 (x0 x1 x2 : Int) : Shp [[9, x0, x1, x2]]
  | c10 (x0 : Int) (r0 r1 : List Int) : Shp [[10, x0], r0, r1]
  | c11 (x0 : Int) (r0 r1 : List Int) : Shp [[11, x0], r0, r1]
  | c12 (x0 : Int) (r0 : List Int) : Shp [[12, x0], r0]
  | c13 (r0 r1 : List Int) : Shp [[13], r0, r1]
  | c14 (r0 r1 r2 : List Int) : Shp [[14], r0, r1, r2]
  | c15 (r0 : List Int) : Shp [[15], r0]
  | c16 (x0 : Int) (r0 : List Int) : Shp [[16, x0], r0]
  | c17 (x0 : Int) (r0 r1 r2 : List Int) : Shp [[17, x0], r0, r1, r2]
  | c18 (x0 x1 : Int) : Shp [[18, x0, x1]]
  | c19 : Shp [[19]]
theorem len0 {α : Type} {l : List α} (h : 0 = l.length) : l = [] := List.eq_nil_of_length_eq_zero h.symm
theorem len1 {α : Type} {l : List α} {n : Nat} (h : n + 1 = l.length) : ∃ x r, l = x :: r ∧ n = r.length := by
  cases l with
  | nil => cases h
  | cons x r => exact ⟨x, r, rfl, by simpa using h⟩
theorem shp_of {c : List (List Int)} (h : Wf c) : Shp c := by
  obtain ⟨p, nums, rows, rfl, h⟩ := h
  by_cases hp : 0 ≤ p ∧ p < 20
  · obtain ⟨m, rfl⟩ : ∃ m : Nat, p = m := ⟨p.toNat, by omega⟩
    have hm : m < 20 := by omega
    match m, hm with
    | 0, _ =>
      rw [show PyVbndal.shape ((0 : Nat) : Int) = some (0, 1) by decide, Option.some.injEq, Prod.mk.injEq] at h
      obtain ⟨a0, b0⟩ := h
      have ea := len0 a0
      obtain ⟨r0, m1, f0, b1⟩ := len1 b0
      have eb := len0 b1
      subst eb
      subst f0
      subst ea
      exact .c0 r0
    | 1, _ =>
      rw [show PyVbndal.shape ((1 : Nat) : Int) = some (0, 1) by decide, Option.some.injEq, Prod.mk.injEq] at h
      obtain ⟨a0, b0⟩ := h
      have ea := len0 a0
      obtain ⟨r0, m1, f0, b1⟩ := len1 b0
      have eb := len0 b1
      subst eb
      subst f0
      subst ea
      exact .c1 r0
    | 2, _ =>
      rw [show PyVbndal.shape ((2 : Nat) : Int) = some (0, 0) by decide, Option.some.injEq, Prod.mk.injEq] at h
      obtain ⟨a0, b0⟩ := h
      have ea := len0 a0
      have eb := len0 b0
      subst eb
      subst ea
      exact .c2 
    | 3, _ =>
      rw [show PyVbndal.shape ((3 : Nat) : Int) = some (0, 0) by decide, Option.some.injEq, Prod.mk.injEq] at h
      obtain ⟨a0, b0⟩ := h
      have ea := len0 a0
      have eb := len0 b0
      subst eb
      subst ea
      exact .c3 
    | 4, _ =>
      rw [show PyVbndal.shape ((4 : Nat) : Int) = some (0, 0) by decide, Option.some.injEq, Prod.mk.injEq] at h
      obtain ⟨a0, b0⟩ := h
      have ea := len0 a0
      have eb := len0 b0
      subst eb
      subst ea
      exact .c4 
    | 5, _ =>
      rw [show PyVbndal.shape ((5 : Nat) : Int) = some (2, 0) by decide, Option.some.injEq, Prod.mk.injEq] at h
      obtain ⟨a0, b0⟩ := h
      obtain ⟨x0, n1, e0, a1⟩ := len1 a0
      obtain ⟨x1, n2, e1, a2⟩ := len1 a1
      have ea := len0 a2
      have eb := len0 b0
      subst eb
      subst ea
      subst e1
      subst e0
      exact .c5 x0 x1
    | 6, _ =>
      rw [show PyVbndal.shape ((6 : Nat) : Int) = some (2, 0) by decide, Option.some.injEq, Prod.mk.injEq] at h
      obtain ⟨a0, b0⟩ := h
      obtain ⟨x0, n1, e0, a1⟩ := len1 a0
      obtain ⟨x1, n2, e1, a2⟩ := len1 a1
      have ea := len0 a2
      have eb := len0 b0
      subst eb
      subst ea
      subst e1
      subst e0
      exact .c6 x0 x1
    | 7, _ =>
      rw [show PyVbndal.shape ((7 : Nat) : Int) = some (1, 0) by decide, Option.some.injEq, Prod.mk.injEq] at h
      obtain ⟨a0, b0⟩ := h
      obtain ⟨x0, n1, e0, a1⟩ := len1 a0
      have ea := len0 a1
      have eb := len0 b0
      subst eb
      subst ea
      subst e0
      exact .c7 x0
    | 8, _ =>
      rw [show PyVbndal.shape ((8 : Nat) : Int) = some (0, 1) by decide, Option.some.injEq, Prod.mk.injEq] at h
      obtain ⟨a0, b0⟩ := h
      have ea := len0 a0
      obtain ⟨r0, m1, f0, b1⟩ := len1 b0
      have eb := len0 b1
      subst eb
      subst f0
      subst ea
      exact .c8 r0
    | 9, _ =>
      rw [show PyVbndal.shape ((9 : Nat) : Int) = some (3, 0) by decide, Option.some.injEq, Prod.mk.injEq] at h
      obtain ⟨a0, b0⟩ := h
      obtain ⟨x0, n1, e0, a1⟩ := len1 a0
      obtain ⟨x1, n2, e1, a2⟩ := len1 a1
      obtain ⟨x2, n3, e2, a3⟩ := len1 a2
      have ea := len0 a3
      have eb := len0 b0
      subst eb
      subst ea
      subst e2
      subst e1
      subst e0
      exact .c9 x0 x1 x2
    | 10, _ =>
      rw [show PyVbndal.shape ((10 : Nat) : Int) = some (1, 2) by decide, Option.some.injEq, Prod.mk.injEq] at h
      obtain ⟨a0, b0⟩ := h
      obtain ⟨x0, n1, e0, a1⟩ := len1 a0
      have ea := len0 a1
      obtain ⟨r0, m1, f0, b1⟩ := len1 b0
      obtain ⟨r1, m2, f1, b2⟩ := len1 b1
      have eb := len0 b2
      subst eb
      subst f1
      subst f0
      subst ea
      subst e0
      exact .c10 x0 r0 r1
    | 11, _ =>
      rw [show PyVbndal.shape ((11 : Nat) : Int) = some (1, 2) by decide, Option.some.injEq, Prod.mk.injEq] at h
      obtain ⟨a0, b0⟩ := h
      obtain ⟨x0, n1, e0, a1⟩ := len1 a0
      have ea := len0 a1
      obtain ⟨r0, m1, f0, b1⟩ := len1 b0
      obtain ⟨r1, m2, f1, b2⟩ := len1 b1
      have eb := len0 b2
      subst eb
      subst f1
      subst f0
      subst ea
      subst e0
      exact .c11 x0 r0 r1
    | 12, _ =>
      rw [show PyVbndal.shape ((12 : Nat) : Int) = some (1, 1) by decide, Option.some.injEq, Prod.mk.injEq] at h
      obtain ⟨a0, b0⟩ := h
      obtain ⟨x0, n1, e0, a1⟩ := len1 a0
      have ea := len0 a1
      obtain ⟨r0, m1, f0, b1⟩ := len1 b0
      have eb := len0 b1
      subst eb
      subst f0
      subst ea
      subst e0
      exact .c12 x0 r0
    | 13, _ =>
      rw [show PyVbndal.shape ((13 : Nat) : Int) = some (0, 2) by decide, Option.some.injEq, Prod.mk.injEq] at h
      obtain ⟨a0, b0⟩ := h
      have ea := len0 a0
      obtain ⟨r0, m1, f0, b1⟩ := len1 b0
      obtain ⟨r1, m2, f1, b2⟩ := len1 b1
      have eb := len0 b2
      subst eb
      subst f1
      subst f0
      subst ea
      exact .c13 r0 r1
    | 14, _ =>
      rw [show PyVbndal.shape ((14 : Nat) : Int) = some (0, 3) by decide, Option.some.injEq, Prod.mk.injEq] at h
      obtain ⟨a0, b0⟩ := h
      have ea := len0 a0
      obtain ⟨r0, m1, f0, b1⟩ := len1 b0
      obtain ⟨r1, m2, f1, b2⟩ := len1 b1
      obtain ⟨r2, m3, f2, b3⟩ := len1 b2
      have eb := len0 b3
      subst eb
      subst f2
      subst f1
      subst f0
      subst ea
      exact .c14 r0 r1 r2
    | 15, _ =>
      rw [show PyVbndal.shape ((15 : Nat) : Int) = some (0, 1) by decide, Option.some.injEq, Prod.mk.injEq] at h
      obtain ⟨a0, b0⟩ := h
      have ea := len0 a0
      obtain ⟨r0, m1, f0, b1⟩ := len1 b0
      have eb := len0 b1
      subst eb
      subst f0
      subst ea
      exact .c15 r0
    | 16, _ =>
      rw [show PyVbndal.shape ((16 : Nat) : Int) = some (1, 1) by decide, Option.some.injEq, Prod.mk.injEq] at h
      obtain ⟨a0, b0⟩ := h
      obtain ⟨x0, n1, e0, a1⟩ := len1 a0
      have ea := len0 a1
      obtain ⟨r0, m1, f0, b1⟩ := len1 b0
      have eb := len0 b1
      subst eb
      subst f0
      subst ea
      subst e0
      exact .c16 x0 r0
    | 17, _ =>
      rw [show PyVbndal.shape ((17 : Nat) : Int) = some (1, 3) by decide, Option.some.injEq, Prod.mk.injEq] at h
      obtain ⟨a0, b0⟩ := h
      obtain ⟨x0, n1, e0, a1⟩ := len1 a0
      have ea := len0 a1
      obtain ⟨r0, m1, f0, b1⟩ := len1 b0
      obtain ⟨r1, m2, f1, b2⟩ := len1 b1
      obtain ⟨r2, m3, f2, b3⟩ := len1 b2
      have eb := len0 b3
      subst eb
      subst f2
      subst f1
      subst f0
      subst ea
      subst e0
      exact .c17 x0 r0 r1 r2
    | 18, _ =>
      rw [show PyVbndal.shape ((18 : Nat) : Int) = some (2, 0) by decide, Option.some.injEq, Prod.mk.injEq] at h
      obtain ⟨a0, b0⟩ := h
      obtain ⟨x0, n1, e0, a1⟩ := len1 a0
      obtain ⟨x1, n2, e1, a2⟩ := len1 a1
      have ea := len0 a2
      have eb := len0 b0
      subst eb
      subst ea
      subst e1
      subst e0
      exact .c18 x0 x1
    | 19, _ =>
      rw [show PyVbndal.shape ((19 : Nat) : Int) = some (0, 0) by decide, Option.some.injEq, Prod.mk.injEq] at h
      obtain ⟨a0, b0⟩ := h
      have ea := len0 a0
      have eb := len0 b0
      subst eb
      subst ea
      exact .c19 
  · have : PyVbndal.shape p = none := by
      unfold PyVbndal.shape
      repeat rw [if_neg (by omega)]
    rw [this] at h
    cases h
end
end Cl
set_option Elab.async false
set_option linter.all false
set_option maxRecDepth 100000
set_option maxHeartbeats 4000000
namespace Cl
open PySem PySem.Spec PyProof.Rows L2
local macro_rules | `(tactic| walk_at "rd") => `(tactic| try simp only [tSeq, tAsg, tVar, tC, tOp, tTest, tIfS, tNext, tRet, tDrop, gName, rI0, rI, rU, tUn, rEq_int, rNe_int, tFn, tFnS, tCons, tNil, tChain, tAndV, tOrV, tNotV, tAnd, tOr, tNot, tB, tIf, L2.start, tFor_eq, tLc_eq, iIL, iRL, iRng1, iRng2, iRng3, iEnR, iEnI, iZpR, iZpI, iStr, iTup, rIxI, rIxR, rIxRL, rIxK, rSlI, tSl, tNoPart, tPart, rInI, rNotInI, rInK, rInT, rInF, rInL, rLenI, rLenR, rLenA, rListI, rSortI', rAllB, rEqI, rNeI, rCatI, rCatS, tLM, rAppI, rAppR, rExtI, rIdxI, tLstI, tLstS, tFldT, sFldT, gUnI, gUnR, gTupT, gCons, gNil, sAugT, tTup, tLst, tCB, tAug, ipI, tPar, tM1, tMth, tMk, tRz, tRangeL, tYes, allInts, tupInts, allStrs, tupStrs, L2.rIsN, tIsN, rgV,
  List.map_cons, List.map_nil, List.length_cons, List.length_nil, Nat.zero_add, Nat.reduceAdd, Nat.reduceSub, Nat.reduceLeDiff, Nat.sub_zero, List.replicate_succ, List.replicate_zero, List.cons_append, List.nil_append, List.append_nil, List.set_cons_zero, List.set_cons_succ, List.getElem?_cons_zero, List.getElem?_cons_succ, Option.some.injEq, exists_and_left, exists_and_right, exists_eq_left', exists_eq_left, ex_il, ex_rl, ex_sl, lk_tok1, lk_tok2, lk_tok3, lk_tok4, lk_rdr1, lk_rdr2, lk_rdr3, lk_rdr4, lk_rdr5, lk_ply1, lk_ply2, lk_tbl1, lk_tbl2, lk_tbl3, lk_cal1, lk_cal2, lk_cal3, lk_dsk1, lk_dsk2, lk_dsk3, pt_rdr2, pt_dsk2, len_rdr, len_dsk, Nat.reduceLT, HO.lst.injEq, Int.zero_add, exists_eq, exists_eq', V.int.injEq, V.ref.injEq, V.bl.injEq, V.str.injEq, List.cons.injEq, HO.ins.injEq, HO.tup.injEq, il_inj, rl_inj, sl_inj, bl_inj, and_assoc, true_and, and_true, decide_eq_true_eq, Bool.not_eq_true', decide_eq_false_iff_not, reduceCtorEq, upd_same, upd_old, Option.isSome_some, Option.isSome_none, ite_true, ite_false, wipe, *])
local macro_rules | `(tactic| walk_at "r0") => `(tactic| try simp only [tSeq, tAsg, tVar, tC, tOp, tTest, tIfS, tNext, tRet, tDrop, gName, rI0, rI, rU, tUn, rEq_int, rNe_int, tFn, tFnS, tCons, tNil, tChain, tAndV, tOrV, tNotV, tAnd, tOr, tNot, tB, tIf, L2.start, tFor_eq, tLc_eq, iIL, iRL, iRng1, iRng2, iRng3, iEnR, iEnI, iZpR, iZpI, iStr, iTup, rIxI, rIxR, rIxRL, rIxK, rSlI, tSl, tNoPart, tPart, rInI, rNotInI, rInK, rInT, rInF, rInL, rLenI, rLenR, rLenA, rListI, rSortI', rAllB, rEqI, rNeI, rCatI, rCatS, tLM, rAppI, rAppR, rExtI, rIdxI, tLstI, tLstS, tFldT, sFldT, gUnI, gUnR, gTupT, gCons, gNil, sAugT, tTup, tLst, tCB, tAug, ipI, tPar, tM1, tMth, tMk, tRz, tRangeL, tYes, allInts, tupInts, allStrs, tupStrs, L2.rIsN, tIsN, rgV,
  List.map_cons, List.map_nil, List.length_cons, List.length_nil, Nat.zero_add, Nat.reduceAdd, Nat.reduceSub, Nat.reduceLeDiff, Nat.sub_zero, List.replicate_succ, List.replicate_zero, List.cons_append, List.nil_append, List.append_nil, List.set_cons_zero, List.set_cons_succ, List.getElem?_cons_zero, List.getElem?_cons_succ, Option.some.injEq, exists_and_left, exists_and_right, exists_eq_left', exists_eq_left, ex_il, ex_rl, ex_sl, lk_tok1, lk_tok2, lk_tok3, lk_tok4, lk_rdr1, lk_rdr2, lk_rdr3, lk_rdr4, lk_rdr5, lk_ply1, lk_ply2, lk_tbl1, lk_tbl2, lk_tbl3, lk_cal1, lk_cal2, lk_cal3, lk_dsk1, lk_dsk2, lk_dsk3, pt_rdr2, pt_dsk2, len_rdr, len_dsk, Nat.reduceLT, HO.lst.injEq, Int.zero_add, exists_eq, exists_eq', V.int.injEq, V.ref.injEq, V.bl.injEq, V.str.injEq, List.cons.injEq, HO.ins.injEq, HO.tup.injEq, il_inj, rl_inj, sl_inj, bl_inj, and_assoc, true_and, and_true, decide_eq_true_eq, Bool.not_eq_true', decide_eq_false_iff_not, reduceCtorEq, upd_same, upd_old, Option.isSome_some, Option.isSome_none, ite_true, ite_false, wipe])
section
variable {P : Program} {w : World} {K : PySem.W.Frag} {mg : Str → Option Value} {base : Heap} {A : Ads}
open Vbndal (executeOnTable)
/-! ### the desk -/
def PlX (A : Ads) (D : Addr) (H : Hp) (a : Addr) (y : Vbndal.Player) : Prop := ∃ dx na, H a = some (.ins A.ply dx (plyF na y.key)) ∧ H na = some (IL (nI y.name)) ∧ na ≠ D
def TbX (A : Ads) (D : Addr) (H : Hp) (a : Addr) (t : Vbndal.Table) : Prop := ∃ dx da la as, H a = some (.ins A.tbl dx (tblF t.prime da la)) ∧ H da = some (IL (nI t.deck)) ∧ H la = some (RL as) ∧ Paired (PlX A D H) as t.players ∧ da ≠ D ∧ la ≠ D
def DkX (A : Ads) (D : Addr) (H : Hp) (d : Addr) (s : Vbndal.State) : Prop := ∃ dx v, H d = some (.ins A.dsk dx (dskF v)) ∧ (match s with
  | none => v = .non
  | some tb => TOk tb ∧ ∃ ta, v = .ref ta ∧ TbX A D H ta tb)
theorem dsk_ply {C C' dx dx' s : Addr} {k : Int} {v : V} : HO.ins C dx (plyF s k) ≠ .ins C' dx' (dskF v) := fun z => by
  injection z with _ _ z
  have := congrArg List.length z
  simp [plyF, tblF, dskF] at this
theorem dsk_tbl {C C' dx dx' s l : Addr} {k : Int} {v : V} : HO.ins C dx (tblF k s l) ≠ .ins C' dx' (dskF v) := fun z => by
  injection z with _ _ z
  have := congrArg List.length z
  simp [plyF, tblF, dskF] at this
theorem TbX.up {A : Ads} {D : Addr} {H H' : Hp} {a : Addr} {t : Vbndal.Table} (s : ∀ b o, b ≠ D → (∀ C dx v, o ≠ .ins C dx (dskF v)) → H b = some o → H' b = some o) (hD : ∃ xs, H D = some (.lst xs)) : TbX A D H a t → TbX A D H' a t := by
  obtain ⟨xs, hD⟩ := hD
  rintro ⟨dx, da, la, as, h1, h2, h3, h4, n1, n2⟩
  exact ⟨dx, da, la, as, s _ _ (ne_of h1 hD (fun z => nomatch z)) (fun _ _ _ => dsk_tbl) h1, s _ _ n1 (fun _ _ _ z => nomatch z) h2, s _ _ n2 (fun _ _ _ z => nomatch z) h3, L2.Paired.mapP h4 fun b y ⟨dy, na, g1, g2, g3⟩ => ⟨dy, na, s _ _ (ne_of g1 hD (fun z => nomatch z)) (fun _ _ _ => dsk_ply) g1, s _ _ g3 (fun _ _ _ z => nomatch z) g2, g3⟩, n1, n2⟩
theorem TbX.at {A : Ads} {D : Addr} {H : Hp} {a : Addr} {t : Vbndal.Table} : TbX A D H a t → TbAt A H a t := fun ⟨dx, da, la, as, h1, h2, h3, h4, n1, n2⟩ => ⟨dx, da, la, as, h1, h2, h3, L2.Paired.mapP h4 fun b y ⟨dy, na, g1, g2, g3⟩ => ⟨dy, na, g1, g2⟩⟩
theorem DkX.mono {A : Ads} {D : Addr} {H H' : Hp} {d : Addr} {s : Vbndal.State} (z : Same H H') (hD : ∃ xs, H D = some (.lst xs)) : DkX A D H d s → DkX A D H' d s := by
  rintro ⟨dx, v, h, q⟩
  refine ⟨dx, v, z _ _ h, ?_⟩
  cases s with
  | none => exact q
  | some tb =>
    obtain ⟨ok, ta, e, hT⟩ := q
    exact ⟨ok, ta, e, hT.up (fun b o _ _ => z b o) hD⟩
theorem DkX.upd {A : Ads} {D : Addr} {H : Hp} {d : Addr} {s : Vbndal.State} {o : HO} (hD : ∃ xs, H D = some (.lst xs)) : DkX A D H d s → DkX A D (upd H D o) d s := by
  rintro ⟨dx, v, h, q⟩
  obtain ⟨xs, hD⟩ := hD
  refine ⟨dx, v, by rw [upd_ne (ne_of h hD (fun z => nomatch z))]; exact h, ?_⟩
  cases s with
  | none => exact q
  | some tb =>
    obtain ⟨ok, ta, e, hT⟩ := q
    exact ⟨ok, ta, e, hT.up (fun b o n _ h => by rw [upd_ne n]; exact h) ⟨xs, hD⟩⟩
/-- what is answered so far: no table's list is alike -/
def FOk (ns : List Int) : Prop := ns = [] ∨ ∃ a b r, ns = a :: b :: r ∧ b ≤ 1
theorem fok_name {ns : List Int} {w : List Nat} (h : FOk ns) (hw : Cm.NmOk w) : IL (nI w) ≠ IL ns := fun e => by
  rw [il_inj] at e
  have h1 := hw.one
  rcases h with rfl | ⟨a, b, r, rfl, hb⟩
  · have := congrArg List.length e
    rw [nI_len] at this
    have : w.length = 0 := this
    omega
  · have e2 : (nI w)[1]? = some b := by rw [e]; rfl
    obtain ⟨k, hk, rfl⟩ := nI_get e2
    have := hw.low k (mem_of_get hk)
    omega
def sp_load (A : Ads) : Sp := fun vs H Q E => ∃ (d dx a : Addr) (v : V) (t : List Nat), vs = [.ref d, .ref a] ∧ H d = some (.ins A.dsk dx (dskF v)) ∧ H a = some (IL (nI t)) ∧ t.length ≤ 1000 ∧
  (∀ tb ta H' b, Vbndal.parseTable t = .ok tb → TOk tb → But d H H' → H' d = some (.ins A.dsk dx (dskF (.ref ta))) → TbN A H H' ta tb → H' b = some (IL [(tb.prime : Int), (tb.deck.length : Int), (tb.players.length : Int)]) → Q (.ref b) H') ∧ (∀ e, Vbndal.parseTable t = .error e → SpoE A (e.code : Nat) (e.offset : Nat) H E)
theorem fn_Desk_load (T : Txt K mg A) : MthAt P w K mg base (L2.CX P w) 7 A.dsk "load" ["self", "text"] (sp_load A) := by
  refine T.m_Desk_load.fnX sc_Desk_load (fun vs H Q E h => by obtain ⟨_, _, _, _, _, rfl, _⟩ := h; rfl) (fun f cdv Ar outer s H vs Q E hr h => ⟨_, (pss_cons (ps_set (i := 2) sc_Desk_load.nd rfl (.inl rfl) (pe_fn (fn_read_table T) (hr.mono (by decide)) (passes_call (takes_of rfl rfl rfl rfl) (fun _ _ _ _ h => h)) (pa_cons (pv 1) pa_nil))) (pss_cons (ps_fldT T.c_Desk.cl T.n_Desk_table (pv 0) (pv 2) rfl) (pss_one (ps_ret (pe_lstI (pa_cons (pe_fldT T.c_Table.cl T.n_Table_prime (pv 2) rfl) (pa_cons (pe_callB len_I (by rfl) T.b_len (by decide +kernel) (pa_cons (pe_fldT T.c_Table.cl T.n_Table_deck (pv 2) rfl) pa_nil)) (pa_cons (pe_callB len_R (by rfl) T.b_len (by decide +kernel) (pa_cons (pe_fldT T.c_Table.cl T.n_Table_players (pv 2) rfl) pa_nil)) pa_nil)))))))), ?_⟩)
  obtain ⟨d, dx, a, v, t, rfl, hd, ha, hl, q, qe⟩ := h
  walk_at "rd"
  refine ⟨a, t, rfl, ha, hl, fun tb H1 b e ok s1 hT => ?_, qe⟩
  obtain ⟨dy, da, la, as, h1, h2, h3, h4, f1, f2⟩ := hT
  have hd1 := s1 _ _ hd
  have hbd : b ≠ d := ne_of h1 hd1 dsk_tbl
  have hdad : da ≠ d := ne_of h2 hd1 (fun z => nomatch z)
  have hlad : la ≠ d := ne_of h3 hd1 (fun z => nomatch z)
  have k1 : (upd H1 d (.ins A.dsk dx (dskF (.ref b)))) b = some (.ins A.tbl dy (tblF tb.prime da la)) := by rw [upd_ne hbd]; exact h1
  have k2 : (upd H1 d (.ins A.dsk dx (dskF (.ref b)))) da = some (IL (nI tb.deck)) := by rw [upd_ne hdad]; exact h2
  have k3 : (upd H1 d (.ins A.dsk dx (dskF (.ref b)))) la = some (RL as) := by rw [upd_ne hlad]; exact h3
  have k4 : Paired (PlAt A (upd H1 d (.ins A.dsk dx (dskF (.ref b))))) as tb.players := L2.Paired.mapP h4 fun c y ⟨dz, na, g1, g2⟩ => ⟨dz, na, by rw [upd_ne (ne_of g1 hd1 dsk_ply)]; exact g1, by rw [upd_ne (ne_of g2 hd1 (fun z => nomatch z))]; exact g2⟩
  walk_at "rd"
  intro p hp
  have sp := Same.new (o := IL [(tb.prime : Int), ((nI tb.deck).length : Int), (as.length : Int)]) hp
  refine q tb b _ p e ok (((But.of s1).trans But.step).trans (But.of sp)) (sp _ _ upd_same) ⟨dy, da, la, as, sp _ _ k1, sp _ _ k2, sp _ _ k3, L2.Paired.mapP k4 fun _ _ => PlAt.mono sp, f1, f2⟩ ?_
  rw [upd_same, nI_len, paired_len h4]
def sp_clear (A : Ads) : Sp := fun vs H Q _ => ∃ (d dx : Addr) (v : V), vs = [.ref d] ∧ H d = some (.ins A.dsk dx (dskF v)) ∧ (∀ H' b, But d H H' → H' d = some (.ins A.dsk dx (dskF .non)) → H' b = some (IL []) → Q (.ref b) H')
theorem fn_Desk_clear_all (T : Txt K mg A) : MthAt P w K mg base CX0 1 A.dsk "clear_all" ["self"] (sp_clear A) := by
  refine T.m_Desk_clear_all.fn sc_Desk_clear_all (fun vs H Q E h => by obtain ⟨_, _, _, rfl, _⟩ := h; rfl) (fun f cdv Ar outer s H vs Q E hr h => ⟨_, (pss_cons (ps_fldT T.c_Desk.cl T.n_Desk_table (pv 0) pe_non rfl) (pss_one (ps_ret (pe_lst pa_nil)))), ?_⟩)
  obtain ⟨d, dx, v, rfl, hd, q⟩ := h
  walk_at "rd"
  refine ⟨Nat.zero_le _, fun p hp => ?_⟩
  have sp := Same.new (o := .lst []) hp
  exact q _ p (But.step.trans (But.of sp)) (sp _ _ upd_same) upd_same
/-! ### what a call asks for -/
theorem FnF.up {P : Program} {w : World} {K : PySem.W.Frag} {mg : Str → Option Value} {base : Heap} {CX : CXT} {j k : Nat} {f : Addr} {ps : List Str} {sp : Sp} (F : FnF P w K mg base CX j f ps sp) (h : j ≤ k) : FnF P w K mg base CX k f ps sp := by
  obtain ⟨fd, G, hk, hb⟩ := F.ex
  exact ⟨fd, G.mono h, hk, hb⟩
theorem FnF.up0 {P : Program} {w : World} {K : PySem.W.Frag} {mg : Str → Option Value} {base : Heap} {j k : Nat} {f : Addr} {ps : List Str} {sp : Sp} (F : FnF P w K mg base CX0 j f ps sp) (h : j ≤ k) : FnF P w K mg base (L2.CX P w) k f ps sp := by
  obtain ⟨fd, G, hk, hb⟩ := F.ex
  refine ⟨fd, FnOk.mono ⟨G.len, fun A outer s H args us vs Q E hr he hb hv hs => codeAny_mono (G.run A outer s H args us vs Q E hr he hb hv hs) fun r s' q => ?_⟩ h, hk, hb⟩
  cases r with
  | ok z => cases z <;> exact q
  | error e => exact absurd q (fun z => z)
theorem Ans.mono {A : Ads} {H H' : Hp} {ans : List Int} {Q : VK} {E : XK} (h : Ans A H ans Q E) (s : Same H H') : Ans A H' ans Q E := ⟨fun r H2 b e s2 hb hl => h.1 r H2 b e (s.trans s2) hb hl, fun c hc e => (h.2 c hc e).mono s⟩
def deedL (A : Ads) : List V := [.ref A.d0, .ref A.d1, .ref A.d2, .ref A.d3, .ref A.d4, .ref A.d5, .ref A.d6, .ref A.d7, .ref A.d8, .ref A.d9, .ref A.d10, .ref A.d11, .ref A.d12, .ref A.d13, .ref A.d14, .ref A.d15, .ref A.d16]
/-- what is wanted of a call's fields: the new state, the answer -/
def FR (A : Ads) (D d : Addr) (H : Hp) (s : Vbndal.State) (z : Vbndal.State × List Int) (Q : VK) (E : XK) : Prop :=
  (∀ r H' b, z.2 = 0 :: r → But d H H' → DkX A D H' d z.1 → H' b = some (IL r) → r.length ≤ 5000 → Q (.ref b) H') ∧ (∀ c, c ≠ 0 → z = (s, [c]) → RefE A c H E) ∧ (∀ k o, z = (s, [1, k, o]) → SpoE A k o H E)
/-- a call in memory -/
def CallH (A : Ads) (H : Hp) (a : Addr) (c : List (List Int)) : Prop := ∃ (dx n rs : Addr) (as : List Addr) (op : Int) (nums : List Int) (rows : List (List Int)), c = (op :: nums) :: rows ∧ H a = some (.ins A.cal dx (calF op n rs)) ∧ H n = some (IL nums) ∧ H rs = some (RL as) ∧ Paired (fun b l => H b = some (IL l)) as rows
def sp_fields (A : Ads) : Sp := fun vs H Q E => ∃ (d c D : Addr) (s : Vbndal.State) (fs : List Int) (cc : List (List Int)), vs = [.ref d, .ref c] ∧ DkX A D H d s ∧ H D = some (IL fs) ∧ FOk fs ∧ CallH A H c cc ∧ VbndalNeutral.asked1 cc = true ∧ Shp cc ∧ FR A D d H s (VbndalNeutral.step s cc) Q E
theorem ite_ind {α : Type} {Z : α → Prop} {c : Prop} {i : Decidable c} {x y : α} (hx : Z x) (hy : Z y) : Z (@ite α c i x y) := by
  by_cases h : c
  · rw [if_pos h]
    exact hx
  · rw [if_neg h]
    exact hy
/-- what holds of every way of a deed -/
theorem ex_ind (s : Vbndal.State) (t : Vbndal.Table) (Z : Vbndal.State × List Int → Prop) (h : ∀ a r, a ≤ 1 → Z (s, a :: r)) : ∀ c : Vbndal.Call, (((∃ x, c = .loadTable x) ∨ (∃ x, c = .checkTable x) ∨ c = .clear) → Z (s, [])) → Z (executeOnTable s t c)
  | .loadTable x, h0 => h0 (.inl ⟨x, rfl⟩)
  | .checkTable x, h0 => h0 (.inr (.inl ⟨x, rfl⟩))
  | .clear, h0 => h0 (.inr (.inr rfl))
  | .printTable, _ => h _ _ (by decide)
  | .status, _ => h _ _ (by decide)
  | .allCards, _ => h _ _ (by decide)
  | .lock _ _, _ => ite_ind (h _ _ (by decide)) (h _ _ (by decide))
  | .unlock _ _, _ => ite_ind (h _ _ (by decide)) (h _ _ (by decide))
  | .inverseKey _, _ => ite_ind (h _ _ (by decide)) (h _ _ (by decide))
  | .jointKey _, _ => ite_ind (h _ _ (by decide)) (h _ _ (by decide))
  | .checkLock _ _ _, _ => ite_ind (h _ _ (by decide)) (h _ _ (by decide))
  | .shuffleRow _ _ _, _ => ite_ind (h _ _ (by decide)) (h _ _ (by decide))
  | .checkShuffle _ _ _, _ => ite_ind (h _ _ (by decide)) (by split <;> exact h _ _ (by decide))
  | .checkSymmetry _ _, _ => ite_ind (h _ _ (by decide)) (by split <;> exact h _ _ (by decide))
  | .auditDeal _ _, _ => ite_ind (h _ _ (by decide)) (by split <;> exact h _ _ (by decide))
  | .remainingOrders _ _ _, _ => ite_ind (h _ _ (by decide)) (by
    split
    · exact h _ _ (by decide)
    · exact ite_ind (h _ _ (by decide)) (by split <;> exact h _ _ (by decide)))
  | .deal l, _ => by
    show Z (match Vbndal.decodeOrders t.deck.length t.players.length l with
      | none => (s, [-1])
      | some ms => (s, 0 :: Vbndal.toInts (Vbndal.dealOf t ms)))
    cases Vbndal.decodeOrders t.deck.length t.players.length l with
    | none => exact h _ _ (by decide)
    | some ms => exact h _ _ (by decide)
  | .openCard _ _, _ => ite_ind (h _ _ (by decide)) (by split <;> exact h _ _ (by decide))
  | .auditOpening _ _ _ _, _ => ite_ind (h _ _ (by decide)) (by
    split
    · exact h _ _ (by decide)
    · split <;> exact h _ _ (by decide))
  | .raise _ _, _ => ite_ind (h _ _ (by decide)) (h _ _ (by decide))
theorem ex_state (s : Vbndal.State) (t : Vbndal.Table) (c : Vbndal.Call) : (executeOnTable s t c).1 = s := ex_ind s t (fun z => z.1 = s) (fun _ _ _ => rfl) c fun _ => rfl
theorem row_len {l : List Int} {m : Nat} (h : VbndalNeutral.isRow l m = true) : l.length ≤ m := by
  unfold VbndalNeutral.isRow at h
  rw [Bool.and_eq_true] at h
  exact of_decide_eq_true h.1
theorem pick_deed {H : Hp} {n rs : Addr} {as : List Addr} {op : Int} {nums : List Int} {rows : List (List Int)} {Q : VK} {E : XK} (T : Txt K mg A) (hn : H n = some (IL nums)) (hrs : H rs = some (RL as)) (hp : Paired (fun b l => H b = some (IL l)) as rows) (hask : VbndalNeutral.asked1 ((op :: nums) :: rows) = true) (hsh : Shp ((op :: nums) :: rows)) :
    ∃ (fd : Addr) (spd : Sp), FnF P w K mg base (L2.CX P w) 7 fd ["table", "numbers", "rows"] spd ∧ ((∃ call : Vbndal.Call, 2 ≤ op ∧ op ≤ 18 ∧ (deedL A)[(op - 2).toNat]? = some (.ref fd) ∧
      VbndalNeutral.decodeCall ((op :: nums) :: rows) = some call ∧ (∀ s, Vbndal.step s call = (match s with | none => (s, [-20]) | some t => executeOnTable s t call)) ∧
      (∀ H1, Same H H1 → ∀ ta tb, TbAt A H1 ta tb → TOk tb → Ans A H1 (executeOnTable (some tb) tb call).2 Q E → spd [.ref ta, .ref n, .ref rs] H1 Q E)) ∨
      (op = 0 ∧ nums = [] ∧ ∃ t, rows = [t] ∧ t.length ≤ 900) ∨ (op = 1 ∧ nums = [] ∧ ∃ t, rows = [t] ∧ t.length ≤ 900) ∨ (op = 19 ∧ nums = [] ∧ rows = [])) := by
  have F0 : FnF P w K mg base (L2.CX P w) 7 A.d0 ["table", "numbers", "rows"] (spD A ok2) := (fn_print_table T).up0 (by decide)
  cases hsh with
  | c0 r0 =>
    have hask : VbndalNeutral.isRow r0 900 = true := hask
    exact ⟨A.d0, spD A ok2, F0, .inr (.inl ⟨rfl, rfl, r0, rfl, row_len hask⟩)⟩
  | c1 r0 =>
    have hask : VbndalNeutral.isRow r0 900 = true := hask
    exact ⟨A.d0, spD A ok2, F0, .inr (.inr (.inl ⟨rfl, rfl, r0, rfl, row_len hask⟩))⟩
  | c2 =>
    exact ⟨A.d0, (spD A ok2), ((fn_print_table T).up0 (by decide)), .inl ⟨.printTable, by decide, by decide, rfl, rfl, (fun s => by cases s <;> rfl), fun H1 s1 ta tb hT ok a => ⟨ta, n, rs, tb, [], as, [], .printTable, rfl, hT, ok, s1 _ _ hn, s1 _ _ hrs, L2.Paired.mapP hp fun _ _ z => s1 _ _ z, fun l hl => absurd hl List.not_mem_nil, rfl, a⟩⟩⟩
  | c3 =>
    exact ⟨A.d1, (spD A ok3), ((fn_status T).up0 (by decide)), .inl ⟨.status, by decide, by decide, rfl, rfl, (fun s => by cases s <;> rfl), fun H1 s1 ta tb hT ok a => ⟨ta, n, rs, tb, [], as, [], .status, rfl, hT, ok, s1 _ _ hn, s1 _ _ hrs, L2.Paired.mapP hp fun _ _ z => s1 _ _ z, fun l hl => absurd hl List.not_mem_nil, rfl, a⟩⟩⟩
  | c4 =>
    exact ⟨A.d2, (spD A ok4), ((fn_all_cards T).up0 (by decide)), .inl ⟨.allCards, by decide, by decide, rfl, rfl, (fun s => by cases s <;> rfl), fun H1 s1 ta tb hT ok a => ⟨ta, n, rs, tb, [], as, [], .allCards, rfl, hT, ok, s1 _ _ hn, s1 _ _ hrs, L2.Paired.mapP hp fun _ _ z => s1 _ _ z, fun l hl => absurd hl List.not_mem_nil, rfl, a⟩⟩⟩
  | c5 x0 x1 =>
    exact ⟨A.d3, (spD A ok5), ((fn_lock T).up (by decide)), .inl ⟨(.lock x0 x1), by decide, by decide, rfl, rfl, (fun s => by cases s <;> rfl), fun H1 s1 ta tb hT ok a => ⟨ta, n, rs, tb, [x0, x1], as, [], (.lock x0 x1), rfl, hT, ok, s1 _ _ hn, s1 _ _ hrs, L2.Paired.mapP hp fun _ _ z => s1 _ _ z, fun l hl => absurd hl List.not_mem_nil, ⟨x0, x1, rfl, rfl⟩, a⟩⟩⟩
  | c6 x0 x1 =>
    exact ⟨A.d4, (spD A ok6), ((fn_unlock T).up (by decide)), .inl ⟨(.unlock x0 x1), by decide, by decide, rfl, rfl, (fun s => by cases s <;> rfl), fun H1 s1 ta tb hT ok a => ⟨ta, n, rs, tb, [x0, x1], as, [], (.unlock x0 x1), rfl, hT, ok, s1 _ _ hn, s1 _ _ hrs, L2.Paired.mapP hp fun _ _ z => s1 _ _ z, fun l hl => absurd hl List.not_mem_nil, ⟨x0, x1, rfl, rfl⟩, a⟩⟩⟩
  | c7 x0 =>
    exact ⟨A.d5, (spD A ok7), ((fn_inverse_key T).up (by decide)), .inl ⟨(.inverseKey x0), by decide, by decide, rfl, rfl, (fun s => by cases s <;> rfl), fun H1 s1 ta tb hT ok a => ⟨ta, n, rs, tb, [x0], as, [], (.inverseKey x0), rfl, hT, ok, s1 _ _ hn, s1 _ _ hrs, L2.Paired.mapP hp fun _ _ z => s1 _ _ z, fun l hl => absurd hl List.not_mem_nil, ⟨x0, rfl, rfl⟩, a⟩⟩⟩
  | c8 r0 =>
    have hask : VbndalNeutral.isRow r0 60 = true := hask
    have hk0 := hask
    have hl : ∀ l ∈ [r0], l.length ≤ 60 := fun l hl => by
      simp only [List.mem_cons, List.not_mem_nil, or_false] at hl
      rcases hl with rfl
      · exact row_len hk0
    exact ⟨A.d6, (spD A ok8), ((fn_joint_key T).up (by decide)), .inl ⟨(.jointKey r0), by decide, by decide, rfl, rfl, (fun s => by cases s <;> rfl), fun H1 s1 ta tb hT ok a => ⟨ta, n, rs, tb, [], as, [r0], (.jointKey r0), rfl, hT, ok, s1 _ _ hn, s1 _ _ hrs, L2.Paired.mapP hp fun _ _ z => s1 _ _ z, hl, ⟨r0, rfl, rfl⟩, a⟩⟩⟩
  | c9 x0 x1 x2 =>
    exact ⟨A.d7, (spD A ok9), ((fn_check_lock T).up (by decide)), .inl ⟨(.checkLock x0 x1 x2), by decide, by decide, rfl, rfl, (fun s => by cases s <;> rfl), fun H1 s1 ta tb hT ok a => ⟨ta, n, rs, tb, [x0, x1, x2], as, [], (.checkLock x0 x1 x2), rfl, hT, ok, s1 _ _ hn, s1 _ _ hrs, L2.Paired.mapP hp fun _ _ z => s1 _ _ z, fun l hl => absurd hl List.not_mem_nil, ⟨x0, x1, x2, rfl, rfl⟩, a⟩⟩⟩
  | c10 x0 r0 r1 =>
    have hask : (VbndalNeutral.isNumber x0 && (VbndalNeutral.isRow r0 60 && VbndalNeutral.isRow r1 60)) = true := hask
    simp only [Bool.and_eq_true] at hask
    obtain ⟨_, hk0, hk1⟩ := hask
    have hl : ∀ l ∈ [r0, r1], l.length ≤ 60 := fun l hl => by
      simp only [List.mem_cons, List.not_mem_nil, or_false] at hl
      rcases hl with rfl | rfl
      · exact row_len hk0
      · exact row_len hk1
    exact ⟨A.d8, (spD A ok10), ((fn_shuffle_row T).up (by decide)), .inl ⟨(.shuffleRow x0 r0 r1), by decide, by decide, rfl, rfl, (fun s => by cases s <;> rfl), fun H1 s1 ta tb hT ok a => ⟨ta, n, rs, tb, [x0], as, [r0, r1], (.shuffleRow x0 r0 r1), rfl, hT, ok, s1 _ _ hn, s1 _ _ hrs, L2.Paired.mapP hp fun _ _ z => s1 _ _ z, hl, ⟨x0, r0, r1, rfl, rfl, rfl⟩, a⟩⟩⟩
  | c11 x0 r0 r1 =>
    have hask : (VbndalNeutral.isNumber x0 && (VbndalNeutral.isRow r0 60 && VbndalNeutral.isRow r1 60)) = true := hask
    simp only [Bool.and_eq_true] at hask
    obtain ⟨_, hk0, hk1⟩ := hask
    have hl : ∀ l ∈ [r0, r1], l.length ≤ 60 := fun l hl => by
      simp only [List.mem_cons, List.not_mem_nil, or_false] at hl
      rcases hl with rfl | rfl
      · exact row_len hk0
      · exact row_len hk1
    exact ⟨A.d9, (spD A ok11), ((fn_check_shuffle T).up (by decide)), .inl ⟨(.checkShuffle x0 r0 r1), by decide, by decide, rfl, rfl, (fun s => by cases s <;> rfl), fun H1 s1 ta tb hT ok a => ⟨ta, n, rs, tb, [x0], as, [r0, r1], (.checkShuffle x0 r0 r1), rfl, hT, ok, s1 _ _ hn, s1 _ _ hrs, L2.Paired.mapP hp fun _ _ z => s1 _ _ z, hl, ⟨x0, r0, r1, rfl, rfl, rfl⟩, a⟩⟩⟩
  | c12 x0 r0 =>
    have hask : (VbndalNeutral.isNumber x0 && VbndalNeutral.isRow r0 60) = true := hask
    simp only [Bool.and_eq_true] at hask
    obtain ⟨_, hk0⟩ := hask
    have hl : ∀ l ∈ [r0], l.length ≤ 60 := fun l hl => by
      simp only [List.mem_cons, List.not_mem_nil, or_false] at hl
      rcases hl with rfl
      · exact row_len hk0
    exact ⟨A.d10, (spD A ok12), ((fn_check_symmetry T).up (by decide)), .inl ⟨(.checkSymmetry x0 r0), by decide, by decide, rfl, rfl, (fun s => by cases s <;> rfl), fun H1 s1 ta tb hT ok a => ⟨ta, n, rs, tb, [x0], as, [r0], (.checkSymmetry x0 r0), rfl, hT, ok, s1 _ _ hn, s1 _ _ hrs, L2.Paired.mapP hp fun _ _ z => s1 _ _ z, hl, ⟨x0, r0, rfl, rfl, rfl⟩, a⟩⟩⟩
  | c13 r0 r1 =>
    have hask : (VbndalNeutral.isRow r0 60 && VbndalNeutral.isRow r1 60) = true := hask
    simp only [Bool.and_eq_true] at hask
    obtain ⟨hk0, hk1⟩ := hask
    have hl : ∀ l ∈ [r0, r1], l.length ≤ 60 := fun l hl => by
      simp only [List.mem_cons, List.not_mem_nil, or_false] at hl
      rcases hl with rfl | rfl
      · exact row_len hk0
      · exact row_len hk1
    exact ⟨A.d11, (spD A ok13), ((fn_audit_deal T).up (by decide)), .inl ⟨(.auditDeal r0 r1), by decide, by decide, rfl, rfl, (fun s => by cases s <;> rfl), fun H1 s1 ta tb hT ok a => ⟨ta, n, rs, tb, [], as, [r0, r1], (.auditDeal r0 r1), rfl, hT, ok, s1 _ _ hn, s1 _ _ hrs, L2.Paired.mapP hp fun _ _ z => s1 _ _ z, hl, ⟨r0, r1, rfl, rfl⟩, a⟩⟩⟩
  | c14 r0 r1 r2 =>
    have hask : (VbndalNeutral.isRow r0 60 && (VbndalNeutral.isRow r1 60 && VbndalNeutral.isRow r2 60)) = true := hask
    simp only [Bool.and_eq_true] at hask
    obtain ⟨hk0, hk1, hk2⟩ := hask
    have hl : ∀ l ∈ [r0, r1, r2], l.length ≤ 60 := fun l hl => by
      simp only [List.mem_cons, List.not_mem_nil, or_false] at hl
      rcases hl with rfl | rfl | rfl
      · exact row_len hk0
      · exact row_len hk1
      · exact row_len hk2
    exact ⟨A.d12, (spD A ok14), ((fn_remaining_orders T).up (by decide)), .inl ⟨(.remainingOrders r0 r1 r2), by decide, by decide, rfl, rfl, (fun s => by cases s <;> rfl), fun H1 s1 ta tb hT ok a => ⟨ta, n, rs, tb, [], as, [r0, r1, r2], (.remainingOrders r0 r1 r2), rfl, hT, ok, s1 _ _ hn, s1 _ _ hrs, L2.Paired.mapP hp fun _ _ z => s1 _ _ z, hl, ⟨r0, r1, r2, rfl, rfl⟩, a⟩⟩⟩
  | c15 r0 =>
    have hask : VbndalNeutral.isRow r0 60 = true := hask
    have hk0 := hask
    have hl : ∀ l ∈ [r0], l.length ≤ 60 := fun l hl => by
      simp only [List.mem_cons, List.not_mem_nil, or_false] at hl
      rcases hl with rfl
      · exact row_len hk0
    exact ⟨A.d13, (spD A ok15), ((fn_deal T).up (by decide)), .inl ⟨(.deal r0), by decide, by decide, rfl, rfl, (fun s => by cases s <;> rfl), fun H1 s1 ta tb hT ok a => ⟨ta, n, rs, tb, [], as, [r0], (.deal r0), rfl, hT, ok, s1 _ _ hn, s1 _ _ hrs, L2.Paired.mapP hp fun _ _ z => s1 _ _ z, hl, ⟨r0, rfl, rfl⟩, a⟩⟩⟩
  | c16 x0 r0 =>
    have hask : (VbndalNeutral.isNumber x0 && VbndalNeutral.isRow r0 60) = true := hask
    simp only [Bool.and_eq_true] at hask
    obtain ⟨_, hk0⟩ := hask
    have hl : ∀ l ∈ [r0], l.length ≤ 60 := fun l hl => by
      simp only [List.mem_cons, List.not_mem_nil, or_false] at hl
      rcases hl with rfl
      · exact row_len hk0
    exact ⟨A.d14, (spD A ok16), ((fn_opened T).up (by decide)), .inl ⟨(.openCard x0 r0), by decide, by decide, rfl, rfl, (fun s => by cases s <;> rfl), fun H1 s1 ta tb hT ok a => ⟨ta, n, rs, tb, [x0], as, [r0], (.openCard x0 r0), rfl, hT, ok, s1 _ _ hn, s1 _ _ hrs, L2.Paired.mapP hp fun _ _ z => s1 _ _ z, hl, ⟨x0, r0, rfl, rfl, rfl⟩, a⟩⟩⟩
  | c17 x0 r0 r1 r2 =>
    have hask : (VbndalNeutral.isNumber x0 && (VbndalNeutral.isRow r0 60 && (VbndalNeutral.isRow r1 60 && VbndalNeutral.isRow r2 60))) = true := hask
    simp only [Bool.and_eq_true] at hask
    obtain ⟨_, hk0, hk1, hk2⟩ := hask
    have hl : ∀ l ∈ [r0, r1, r2], l.length ≤ 60 := fun l hl => by
      simp only [List.mem_cons, List.not_mem_nil, or_false] at hl
      rcases hl with rfl | rfl | rfl
      · exact row_len hk0
      · exact row_len hk1
      · exact row_len hk2
    exact ⟨A.d15, (spD A ok17), ((fn_audit_opening T).up (by decide)), .inl ⟨(.auditOpening x0 r0 r1 r2), by decide, by decide, rfl, rfl, (fun s => by cases s <;> rfl), fun H1 s1 ta tb hT ok a => ⟨ta, n, rs, tb, [x0], as, [r0, r1, r2], (.auditOpening x0 r0 r1 r2), rfl, hT, ok, s1 _ _ hn, s1 _ _ hrs, L2.Paired.mapP hp fun _ _ z => s1 _ _ z, hl, ⟨x0, r0, r1, r2, rfl, rfl, rfl⟩, a⟩⟩⟩
  | c18 x0 x1 =>
    exact ⟨A.d16, (spD A ok18), ((fn_raised T).up (by decide)), .inl ⟨(.raise x0 x1), by decide, by decide, rfl, rfl, (fun s => by cases s <;> rfl), fun H1 s1 ta tb hT ok a => ⟨ta, n, rs, tb, [x0, x1], as, [], (.raise x0 x1), rfl, hT, ok, s1 _ _ hn, s1 _ _ hrs, L2.Paired.mapP hp fun _ _ z => s1 _ _ z, fun l hl => absurd hl List.not_mem_nil, ⟨x0, x1, rfl, rfl⟩, a⟩⟩⟩
  | c19 =>
    exact ⟨A.d0, spD A ok2, F0, .inr (.inr (.inr ⟨rfl, rfl, rfl⟩))⟩
theorem ite_of_neg {c : Prop} {i : Decidable c} {a b : Prop} (h : ¬ c) (hb : b) : @ite Prop c i a b := by
  rw [if_neg h]
  exact hb
theorem ite_of_pos {c : Prop} {i : Decidable c} {a b : Prop} (h : c) (ha : a) : @ite Prop c i a b := by
  rw [if_pos h]
  exact ha
theorem plx_of {A : Ads} {D : Addr} {fs : List Int} {H : Hp} (h : H D = some (IL fs)) (hF : FOk fs) : ∀ {as : List Addr} {ys : List Vbndal.Player}, Paired (PlAt A H) as ys → (∀ y ∈ ys, Cm.NmOk y.name) → Paired (PlX A D H) as ys
  | _, _, .nil, _ => .nil
  | _, _, .cons q t, n => by
    obtain ⟨dy, na, g1, g2⟩ := q
    exact .cons ⟨dy, na, g1, g2, ne_of g2 h (fok_name hF (n _ (List.mem_cons_self ..)))⟩ (plx_of h hF t fun y hy => n y (List.mem_cons_of_mem _ hy))
theorem TbN.x {A : Ads} {D : Addr} {fs : List Int} {H0 H : Hp} {a : Addr} {t : Vbndal.Table} (hT : TbN A H0 H a t) (ok : TOk t) (h0 : H0 D = some (IL fs)) (h : H D = some (IL fs)) (hF : FOk fs) : TbX A D H a t := by
  obtain ⟨dx, da, la, as, h1, h2, h3, h4, n1, n2⟩ := hT
  exact ⟨dx, da, la, as, h1, h2, h3, plx_of h hF h4 ok.names, Ne.symm (ne_of_none h0 n1), Ne.symm (ne_of_none h0 n2)⟩
theorem step_bad {st : Vbndal.State} {t : List Int} (h : Vbndal.isTextArgument t = false) : Vbndal.step st (.loadTable t) = (st, [-1]) ∧ Vbndal.step st (.checkTable t) = (st, [-1]) := by
  constructor
  · show (if Vbndal.isTextArgument t = false then (st, [-1]) else _) = _
    rw [if_pos h]
  · show (if Vbndal.isTextArgument t = false then (st, [-1]) else _) = _
    rw [if_pos h]
theorem step_load {st : Vbndal.State} {m : List Nat} (h : Vbndal.isTextArgument (nI m) = true) : Vbndal.step st (.loadTable (nI m)) = (match Vbndal.parseTable m with
      | .error b => (st, [1, (b.code : Int), (b.offset : Int)])
      | .ok x => (some x, 0 :: Vbndal.toInts [x.prime, x.deck.length, x.players.length])) := by
  show (if Vbndal.isTextArgument (nI m) = false then (st, [-1]) else (match Vbndal.parseTable (Vbndal.toNats (nI m)) with
      | .error b => (st, [1, (b.code : Int), (b.offset : Int)])
      | .ok x => (some x, 0 :: Vbndal.toInts [x.prime, x.deck.length, x.players.length]))) = _
  rw [if_neg (by rw [h]; decide), nats_nI]
theorem step_check {st : Vbndal.State} {m : List Nat} (h : Vbndal.isTextArgument (nI m) = true) : Vbndal.step st (.checkTable (nI m)) = (match Vbndal.parseTable m with
      | .error b => (st, [1, (b.code : Int), (b.offset : Int)])
      | .ok _ => (st, [0])) := by
  show (if Vbndal.isTextArgument (nI m) = false then (st, [-1]) else (match Vbndal.parseTable (Vbndal.toNats (nI m)) with
      | .error b => (st, [1, (b.code : Int), (b.offset : Int)])
      | .ok _ => (st, [0]))) = _
  rw [if_neg (by rw [h]; decide), nats_nI]
theorem text_nats {t : List Int} (h : Vbndal.isTextArgument t = true) : ∃ m, t = nI m ∧ m.length ≤ 800 := by
  unfold Vbndal.isTextArgument at h
  rw [Bool.and_eq_true, decide_eq_true_eq] at h
  obtain ⟨m, rfl⟩ := all_nats (fun x hx => by
    unfold Vbndal.inRange at hx
    rw [Bool.and_eq_true, decide_eq_true_eq, decide_eq_true_eq] at hx
    exact ⟨x.toNat, by omega⟩) h.2
  rw [nI_len] at h
  exact ⟨m, rfl, h.1⟩
theorem fn_fields_of (T : Txt K mg A) : FnAt P w K mg base (L2.CX P w) 8 "fields_of" ["desk", "call"] (sp_fields A) := by
  refine T.d_fields_of.fnX sc_fields_of (fun vs H Q E h => by obtain ⟨_, _, _, _, _, _, rfl, _⟩ := h; rfl) (fun f cdv Ar outer s H vs Q E hr h => ?_)
  obtain ⟨d, c, D, st, fs, cc, rfl, hDk, hD, hF, ⟨dx, n, rs, as, op, nums, rows, rfl, hc, hn, hrs, hp⟩, hask, hsh, q⟩ := h
  obtain ⟨fd, spd, F_, hcase⟩ := pick_deed (P := P) (w := w) (base := base) (Q := Q) (E := E) T hn hrs hp hask hsh
  refine ⟨_, (pss_cons (ps_if (pt_cmpR op_eq (pe_fldT T.c_Call.cl T.n_Call_operation (pv 1) rfl) (pe_ki T.k_CLEAR) (nomark _)) (pss_one (ps_ret (pe_mth0 T.c_Desk.cl (fn_Desk_clear_all T) (hr.mono (by decide)) pass0 (pv 0)))) pss_nil) (pss_cons (ps_if (pt_cmpR op_inT (pe_fldT T.c_Call.cl T.n_Call_operation (pv 1) rfl) (pe_tup (pa_cons (pe_ki T.k_LOAD) (pa_cons (pe_ki T.k_CHECK) pa_nil))) (by rfl)) (pss_cons (ps_expr (pe_fn (fn_check_text T) (hr.mono (by decide)) (passes_call (takes_of rfl rfl rfl rfl) (fun _ _ _ _ h => h)) (pa_cons (pe_ix ix_R (pe_fldT T.c_Call.cl T.n_Call_rows (pv 1) rfl) pe_int (fun _ _ => rfl)) pa_nil))) (pss_cons (ps_if (pt_cmpR op_eq (pe_fldT T.c_Call.cl T.n_Call_operation (pv 1) rfl) (pe_ki T.k_LOAD) (nomark _)) (pss_one (ps_ret (pe_mth T.c_Desk.cl (fn_Desk_load T) (hr.mono (by decide)) (passes_call (takes_of rfl rfl rfl rfl) (fun _ _ _ _ h => h)) (pv 0) (pa_cons (pe_ix ix_R (pe_fldT T.c_Call.cl T.n_Call_rows (pv 1) rfl) pe_int (fun _ _ => rfl)) pa_nil)))) pss_nil) (pss_cons (ps_expr (pe_fn (fn_read_table T) (hr.mono (by decide)) (passes_call (takes_of rfl rfl rfl rfl) (fun _ _ _ _ h => h)) (pa_cons (pe_ix ix_R (pe_fldT T.c_Call.cl T.n_Call_rows (pv 1) rfl) pe_int (fun _ _ => rfl)) pa_nil))) (pss_one (ps_ret (pe_lst pa_nil)))))) pss_nil) (pss_cons (ps_if (pt_cmpR op_isN1 (pe_fldT T.c_Desk.cl T.n_Desk_table (pv 0) rfl) pe_non (nomark _)) (pss_one (ps_rz (err_Refused T) rfl (takes_of rfl rfl rfl rfl) (hr.mono (by decide)) (pa_cons (pe_ki T.k_NO_TABLE) pa_nil))) pss_nil) (pss_cons (ps_set (i := 2) sc_fields_of.nd rfl (.inl rfl) (pe_ix (ix_K T.k_DEEDS) (pe_kt T.k_DEEDS) (pe_op op_sub (pe_fldT T.c_Call.cl T.n_Call_operation (pv 1) rfl) (pe_ki T.k_FIRST_DEED)) (fun _ _ => rfl))) (pss_one (ps_ret (pe_fnL (i := 2) F_ (hr.mono (by decide)) rfl (.inl rfl) (passes_call (takes_of rfl rfl rfl rfl) (fun _ _ _ _ h => h)) (pa_cons (pe_fldT T.c_Desk.cl T.n_Desk_table (pv 0) rfl) (pa_cons (pe_fldT T.c_Call.cl T.n_Call_numbers (pv 1) rfl) (pa_cons (pe_fldT T.c_Call.cl T.n_Call_rows (pv 1) rfl) pa_nil)))))))))), ?_⟩
  obtain ⟨dk, v, hd, hv⟩ := id hDk
  walk_at "rd"
  rcases hcase with ⟨call, h2, h18, hat, hdec, hstep, hspd⟩ | ⟨rfl, rfl, t, rfl, hl⟩ | ⟨rfl, rfl, t, rfl, hl⟩ | ⟨rfl, rfl, rfl⟩
  · have e1 : VbndalNeutral.step st ((op :: nums) :: rows) = Vbndal.step st call := by
      unfold VbndalNeutral.step
      rw [hdec]
    rw [e1, hstep] at q
    refine ite_of_neg (by omega) ⟨by rw [sizeLine_eq]; decide, fun p hp => ite_of_neg (by simp; omega) ?_⟩
    have sp := Same.new (o := .tup [.int 0, .int 1]) hp
    refine ⟨_, _, sp _ _ hd, _, rfl, ?_⟩
    cases st with
    | none =>
      subst hv
      rw [if_pos rfl]
      exact ref_end ((q.2.1 (-20) (by decide) rfl).mono sp)
    | some tb =>
      have hDk2 := hv
      obtain ⟨ok, ta, rfl, hT⟩ := hv
      have hA : Ans A H (executeOnTable (some tb) tb call).2 Q E := ⟨fun r H' b e s hb hl => q.1 r H' b e (But.of s) (by
        show DkX A D H' d (executeOnTable (some tb) tb call).1
        rw [ex_state]
        exact DkX.mono s ⟨_, hD⟩ ⟨dk, _, hd, hDk2⟩) hb hl, fun c hc e => q.2.1 c hc (Prod.ext (ex_state _ _ _) e)⟩
      rw [if_neg (fun z => nomatch z)]
      have hc' := sp _ _ hc
      have hd' := sp _ _ hd
      refine ⟨_, _, hc', _, rfl, _, rfl, by omega, _, hat, rfl, ?_⟩
      clear q
      walk_at "rd"
      exact hspd _ sp ta tb (hT.at.mono sp) ok (hA.mono sp)
  · cases hp with
    | @cons a0 _ _ _ g1 g2 =>
    cases g2
    refine ite_of_neg (by decide) ⟨by rw [sizeLine_eq]; decide, fun p hp => ite_of_pos (by decide) ?_⟩
    have sp := Same.new (o := .tup [.int 0, .int 1]) hp
    have e1 : VbndalNeutral.step st [[0], t] = Vbndal.step st (.loadTable t) := rfl
    rw [e1] at q
    refine ⟨_, _, sp _ _ hc, _, rfl, _, rfl, _, sp _ _ hrs, by decide, by simp, a0, t, rfl, sp _ _ g1, by omega, fun b1 H1 s1 => ?_, fun b1 => RefE.mono (q.2.1 (-1) (by decide) (step_bad b1).1) sp⟩
    have s01 := sp.trans s1
    obtain ⟨m, rfl, hm⟩ := text_nats b1
    rw [step_load b1] at q
    refine ⟨_, _, s01 _ _ hc, _, rfl, ?_⟩
    rw [rEq_int]
    refine ⟨_, rfl, ?_⟩
    rw [if_pos (by decide)]
    refine ⟨_, _, s01 _ _ hd, rfl, _, _, s01 _ _ hc, _, rfl, _, rfl, _, s01 _ _ hrs, by decide, by simp, d, dk, a0, v, m, rfl, s01 _ _ hd, s01 _ _ g1, by omega, fun tb ta H2 b e ok s2 hd2 hT hb => ?_, fun e he => SpoE.mono (q.2.2 _ _ (by rw [he])) s01⟩
    rw [e] at q
    have hDd : D ≠ d := ne_of hD hd (fun z => nomatch z)
    exact q.1 _ H2 b rfl ((But.of s01).trans s2) ⟨dk, _, hd2, ok, ta, rfl, hT.x ok (s01 _ _ hD) (s2 _ _ hDd (s01 _ _ hD)) hF⟩ hb (by show 3 ≤ 5000; decide)
  · cases hp with
    | @cons a0 _ _ _ g1 g2 =>
    cases g2
    refine ite_of_neg (by decide) ⟨by rw [sizeLine_eq]; decide, fun p hp => ite_of_pos (by decide) ?_⟩
    have sp := Same.new (o := .tup [.int 0, .int 1]) hp
    have e1 : VbndalNeutral.step st [[1], t] = Vbndal.step st (.checkTable t) := rfl
    rw [e1] at q
    refine ⟨_, _, sp _ _ hc, _, rfl, _, rfl, _, sp _ _ hrs, by decide, by simp, a0, t, rfl, sp _ _ g1, by omega, fun b1 H1 s1 => ?_, fun b1 => RefE.mono (q.2.1 (-1) (by decide) (step_bad b1).2) sp⟩
    have s01 := sp.trans s1
    obtain ⟨m, rfl, hm⟩ := text_nats b1
    rw [step_check b1] at q
    refine ⟨_, _, s01 _ _ hc, _, rfl, ?_⟩
    rw [rEq_int]
    refine ⟨_, rfl, ?_⟩
    rw [if_neg (by decide)]
    refine ⟨_, _, s01 _ _ hc, _, rfl, _, rfl, _, s01 _ _ hrs, by decide, by simp, a0, m, rfl, s01 _ _ g1, by omega, fun tb H2 b e ok s2 hT => ?_, fun e he => SpoE.mono (q.2.2 _ _ (by rw [he])) s01⟩
    rw [e] at q
    refine ⟨Nat.zero_le _, fun p3 hp3 => ?_⟩
    have s03 := (s01.trans s2).trans (Same.new (o := .lst []) hp3)
    exact q.1 [] _ p3 rfl (But.of s03) (hDk.mono s03 ⟨_, hD⟩) upd_same (Nat.zero_le _)
  · refine ite_of_pos rfl ⟨d, dk, v, rfl, hd, fun H1 b s1 hd1 hb => ?_⟩
    exact q.1 [] H1 b rfl s1 ⟨dk, _, hd1, rfl⟩ hb (Nat.zero_le _)
end
end Cl
set_option Elab.async false
set_option linter.all false
set_option maxRecDepth 100000
set_option maxHeartbeats 4000000
namespace Cl
open PySem PySem.Spec PyProof.Rows L2
local macro_rules | `(tactic| walk_at "rd") => `(tactic| try simp only [tSeq, tAsg, tVar, tC, tOp, tTest, tIfS, tNext, tRet, tDrop, gName, rI0, rI, rU, tUn, rEq_int, rNe_int, tFn, tFnS, tCons, tNil, tChain, tAndV, tOrV, tNotV, tAnd, tOr, tNot, tB, tIf, L2.start, tFor_eq, tLc_eq, iIL, iRL, iRng1, iRng2, iRng3, iEnR, iEnI, iZpR, iZpI, iStr, iTup, rIxI, rIxR, rIxRL, rIxK, rSlI, tSl, tNoPart, tPart, rInI, rNotInI, rInK, rInT, rInF, rInL, rLenI, rLenR, rLenA, rListI, rSortI', rAllB, rEqI, rNeI, rCatI, rCatS, tLM, rAppI, rAppR, rExtI, rIdxI, tLstI, tLstS, tFldT, sFldT, gUnI, gUnR, gTupT, gCons, gNil, sAugT, tTup, tLst, tCB, tAug, ipI, tPar, tM1, tMth, tMk, tRz, tRangeL, tYes, allInts, tupInts, allStrs, tupStrs, L2.rIsN, tIsN, rgV,
  List.map_cons, List.map_nil, List.length_cons, List.length_nil, Nat.zero_add, Nat.reduceAdd, Nat.reduceSub, Nat.reduceLeDiff, Nat.sub_zero, List.replicate_succ, List.replicate_zero, List.cons_append, List.nil_append, List.append_nil, List.set_cons_zero, List.set_cons_succ, List.getElem?_cons_zero, List.getElem?_cons_succ, Option.some.injEq, exists_and_left, exists_and_right, exists_eq_left', exists_eq_left, ex_il, ex_rl, ex_sl, lk_tok1, lk_tok2, lk_tok3, lk_tok4, lk_rdr1, lk_rdr2, lk_rdr3, lk_rdr4, lk_rdr5, lk_ply1, lk_ply2, lk_tbl1, lk_tbl2, lk_tbl3, lk_cal1, lk_cal2, lk_cal3, lk_dsk1, lk_dsk2, lk_dsk3, pt_rdr2, pt_dsk2, len_rdr, len_dsk, Nat.reduceLT, HO.lst.injEq, Int.zero_add, exists_eq, exists_eq', V.int.injEq, V.ref.injEq, V.bl.injEq, V.str.injEq, List.cons.injEq, HO.ins.injEq, HO.tup.injEq, il_inj, rl_inj, sl_inj, bl_inj, and_assoc, true_and, and_true, decide_eq_true_eq, Bool.not_eq_true', decide_eq_false_iff_not, reduceCtorEq, upd_same, upd_old, Option.isSome_some, Option.isSome_none, ite_true, ite_false, wipe, *])
local macro_rules | `(tactic| walk_at "r0") => `(tactic| try simp only [tSeq, tAsg, tVar, tC, tOp, tTest, tIfS, tNext, tRet, tDrop, gName, rI0, rI, rU, tUn, rEq_int, rNe_int, tFn, tFnS, tCons, tNil, tChain, tAndV, tOrV, tNotV, tAnd, tOr, tNot, tB, tIf, L2.start, tFor_eq, tLc_eq, iIL, iRL, iRng1, iRng2, iRng3, iEnR, iEnI, iZpR, iZpI, iStr, iTup, rIxI, rIxR, rIxRL, rIxK, rSlI, tSl, tNoPart, tPart, rInI, rNotInI, rInK, rInT, rInF, rInL, rLenI, rLenR, rLenA, rListI, rSortI', rAllB, rEqI, rNeI, rCatI, rCatS, tLM, rAppI, rAppR, rExtI, rIdxI, tLstI, tLstS, tFldT, sFldT, gUnI, gUnR, gTupT, gCons, gNil, sAugT, tTup, tLst, tCB, tAug, ipI, tPar, tM1, tMth, tMk, tRz, tRangeL, tYes, allInts, tupInts, allStrs, tupStrs, L2.rIsN, tIsN, rgV,
  List.map_cons, List.map_nil, List.length_cons, List.length_nil, Nat.zero_add, Nat.reduceAdd, Nat.reduceSub, Nat.reduceLeDiff, Nat.sub_zero, List.replicate_succ, List.replicate_zero, List.cons_append, List.nil_append, List.append_nil, List.set_cons_zero, List.set_cons_succ, List.getElem?_cons_zero, List.getElem?_cons_succ, Option.some.injEq, exists_and_left, exists_and_right, exists_eq_left', exists_eq_left, ex_il, ex_rl, ex_sl, lk_tok1, lk_tok2, lk_tok3, lk_tok4, lk_rdr1, lk_rdr2, lk_rdr3, lk_rdr4, lk_rdr5, lk_ply1, lk_ply2, lk_tbl1, lk_tbl2, lk_tbl3, lk_cal1, lk_cal2, lk_cal3, lk_dsk1, lk_dsk2, lk_dsk3, pt_rdr2, pt_dsk2, len_rdr, len_dsk, Nat.reduceLT, HO.lst.injEq, Int.zero_add, exists_eq, exists_eq', V.int.injEq, V.ref.injEq, V.bl.injEq, V.str.injEq, List.cons.injEq, HO.ins.injEq, HO.tup.injEq, il_inj, rl_inj, sl_inj, bl_inj, and_assoc, true_and, and_true, decide_eq_true_eq, Bool.not_eq_true', decide_eq_false_iff_not, reduceCtorEq, upd_same, upd_old, Option.isSome_some, Option.isSome_none, ite_true, ite_false, wipe])
section
variable {P : Program} {w : World} {K : PySem.W.Frag} {mg : Str → Option Value} {base : Heap} {A : Ads}
def sp_answer (A : Ads) : Sp := fun vs H Q _ => ∃ (d c D : Addr) (s : Vbndal.State) (fs : List Int) (cc : List (List Int)), vs = [.ref d, .ref c] ∧ DkX A D H d s ∧ H D = some (IL fs) ∧ FOk fs ∧ CallH A H c cc ∧ VbndalNeutral.asked1 cc = true ∧ Shp cc ∧
  ∀ H' b, But d H H' → DkX A D H' d (VbndalNeutral.step s cc).1 → H' b = some (IL (VbndalNeutral.step s cc).2) → (VbndalNeutral.step s cc).2.length ≤ 5001 → Q (.ref b) H'
theorem CallH.mono {A : Ads} {H H' : Hp} {a : Addr} {c : List (List Int)} (s : Same H H') : CallH A H a c → CallH A H' a c := fun ⟨dx, n, rs, as, op, nums, rows, e, h1, h2, h3, h4⟩ =>
  ⟨dx, n, rs, as, op, nums, rows, e, s _ _ h1, s _ _ h2, s _ _ h3, L2.Paired.mapP h4 fun _ _ z => s _ _ z⟩
theorem fn_answer_of (T : Txt K mg A) : FnAt P w K mg base CX0 9 "answer_of" ["desk", "call"] (sp_answer A) := by
  refine T.d_answer_of.fn sc_answer_of (fun vs H Q E h => by obtain ⟨_, _, _, _, _, _, rfl, _⟩ := h; rfl) (fun f cdv Ar outer s H vs Q E hr h => ⟨_, (pss_one (ps_try_ma rfl rfl sc_answer_of.nd (fun W pn xe tk _ => (pss_one (ps_ret (pe_op op_catI (pe_lstI (pa_cons pe_int pa_nil)) (pe_fnS (fn_fields_of T) (hr.mono (by decide)) (fun σ => passAt tk σ) (pa_cons (pv 0) (pa_cons (pv 1) pa_nil))))))) (.cons (i := 2) rfl rfl ⟨rfl, by decide, .inl T.e_Spoilt.gC⟩ (fun a oe cls d pn hz hf => (pss_one (ps_ret (pe_lstI (pa_cons pe_int (pa_cons (pe_xf T.e_Spoilt.xf T.n_Spoilt_code hz hf (pv 2)) (pa_cons (pe_xf T.e_Spoilt.xf T.n_Spoilt_offset hz hf (pv 2)) pa_nil))))))) (.cons (i := 3) rfl rfl ⟨rfl, by decide, .inl T.e_Refused.gC⟩ (fun a oe cls d pn hz hf => (pss_one (ps_ret (pe_lstI (pa_cons (pe_xf T.e_Refused.xf T.n_Refused_code hz hf (pv 3)) pa_nil))))) .nil)))), ?_⟩)
  obtain ⟨d, c, D, s, fs, cc, rfl, hDk, hD, hF, hC, hask, hsh, q⟩ := h
  have hDl : ∃ xs, H D = some (.lst xs) := ⟨_, hD⟩
  obtain ⟨dk, v, hd, _⟩ := id hDk
  walk_at "r0"
  intro p hp
  have sp := Same.new (o := IL [0]) hp
  have hpd : p ≠ d := Ne.symm (ne_of_none hd hp)
  refine ⟨d, c, D, s, fs, cc, rfl, hDk.mono sp hDl, sp _ _ hD, hF, hC.mono sp, hask, hsh, fun r H' b e bt hdk hb hl => ?_, fun code hc e => ?_, fun k o e => ?_⟩
  · have hDd : D ≠ d := ne_of hD hd (fun z => nomatch z)
    refine ⟨b, rfl, _, bt _ _ hpd upd_same, _, hb, by rw [sizeLine_eq]; show 1 + _ ≤ _; omega, fun p2 hp2 => ?_⟩
    refine q _ p2 (((But.of sp).trans bt).trans (But.of (Same.new hp2))) (hdk.mono (Same.new hp2) ⟨_, bt _ _ hDd (sp _ _ hD)⟩) (by rw [upd_same, e]; rfl) (by rw [e]; show r.length + 1 ≤ 5001; omega)
  · intro dd H' s' hx
    have S := sp.trans s'
    refine .inr ⟨T.x_ref_spo, .inl ⟨T.e_Refused.me, fun a0 ha0 => ?_⟩⟩
    rw [e] at q
    walk_at "r0"
    refine ⟨_, rfl, rfl, rfl, dd, _, _, rfl, hx, rfl, rfl, fun p2 hp2 => ?_⟩
    have S2 := S.trans (Same.new (o := IL [code]) hp2)
    exact q _ p2 (But.of S2) (hDk.mono S2 hDl) upd_same (by show 1 ≤ 5001; decide)
  · intro dd H' s' hx
    have S := sp.trans s'
    refine .inl ⟨T.e_Spoilt.me, fun a0 ha0 => ?_⟩
    rw [e] at q
    walk_at "r0"
    refine ⟨_, rfl, rfl, rfl, dd, _, _, rfl, hx, rfl, _, rfl, rfl, rfl, dd, _, _, rfl, hx, rfl, rfl, fun p2 hp2 => ?_⟩
    have S2 := S.trans (Same.new (o := IL [1, k, o]) hp2)
    exact q _ p2 (But.of S2) (hDk.mono S2 hDl) upd_same (by show 3 ≤ 5001; decide)
/-! ### all of it -/
def Hd1 (z : Vbndal.State × List Int) : Prop := ∃ a r, z.2 = a :: r ∧ a ≤ 1
theorem hd1 {s : Vbndal.State} {a : Int} {r : List Int} (h : a ≤ 1) : Hd1 (s, a :: r) := ⟨a, r, rfl, h⟩
theorem call_head (s : Vbndal.State) (c : Vbndal.Call) : Hd1 (Vbndal.step s c) := by
  have go : ¬ ((∃ x, c = .loadTable x) ∨ (∃ x, c = .checkTable x) ∨ c = .clear) → Hd1 (match s with | none => (s, [-20]) | some t => Vbndal.executeOnTable s t c) := fun n => by
    cases s with
    | none => exact hd1 (by decide)
    | some t => exact ex_ind _ t Hd1 (fun a r h => hd1 h) c fun z => absurd z n
  cases c with
  | loadTable x => exact ite_ind (hd1 (by decide)) (by split <;> exact hd1 (by decide))
  | checkTable x => exact ite_ind (hd1 (by decide)) (by split <;> exact hd1 (by decide))
  | clear => exact hd1 (by decide)
  | _ => exact go (by simp)
theorem decode_of {cc : List (List Int)} (h : Shp cc) : ∃ call, VbndalNeutral.decodeCall cc = some call := by
  cases h <;> exact ⟨_, rfl⟩
theorem step_head {s : Vbndal.State} {cc : List (List Int)} (h : Shp cc) : ∃ a r, (VbndalNeutral.step s cc).2 = a :: r ∧ a ≤ 1 := by
  obtain ⟨call, e⟩ := decode_of h
  unfold VbndalNeutral.step
  rw [e]
  exact call_head s call
theorem whole_id {c : List (List Int)} (h : Shp c) : PyVbndal.whole c = c := by
  cases h <;> rfl
def sp_row (K : PySem.W.Frag) : Sp := fun vs H Q _ => ∃ (a : Addr) (ns : List Int), vs = [.ref a] ∧ SqL K H a (ns.map V.int) ∧ ns.length ≤ 16000 ∧ PyVbndal.answers_asked ns = true ∧ ∀ (H' : Hp) (p : Addr), H' p = some (.lst ((PyVbndal.answers ns).map V.int)) → Q (.ref p) H'
theorem asked_of {ns : List Int} (h : PyVbndal.answers_asked ns = true) : ∃ cs, PyFlat.calls PyVbndal.shape ns.length ns = some cs ∧ (∀ c ∈ cs, VbndalNeutral.asked1 c = true ∧ Shp c) ∧ PyVbndal.answers ns = PyFlat.told (PyFlat.played VbndalNeutral.step VbndalNeutral.start cs) ∧ (PyVbndal.answers ns).length ≤ 10000000 := by
  unfold PyVbndal.answers_asked at h
  cases e : PyFlat.calls PyVbndal.shape ns.length ns with
  | none =>
    rw [e] at h
    cases h
  | some cs =>
    rw [e] at h
    have hsh : ∀ c ∈ cs, Shp c := fun c hc => shp_of (calls_wf _ _ _ e c hc)
    have hm : cs.map PyVbndal.whole = cs := by
      have z : cs.map PyVbndal.whole = cs.map id := List.map_congr_left fun c hc => whole_id (hsh c hc)
      rw [z]
      exact List.map_id cs
    simp only [hm, Bool.and_eq_true] at h
    obtain ⟨⟨⟨⟨h1, h2⟩, h3⟩, h4⟩, h5⟩ := h
    refine ⟨cs, rfl, fun c hc => ?_, ?_, ?_⟩
    · unfold VbndalNeutral.asked at h4
      simp only [Bool.and_eq_true] at h4
      exact ⟨List.all_eq_true.mp h4.2.2 c hc, hsh c hc⟩
    · unfold PyVbndal.answers PyVbndal.calls
      rw [e]
      simp only [hm]
    · unfold PyFlat.short at h5
      exact of_decide_eq_true h5
theorem CallF.h {A : Ads} {H0 H : Hp} {a : Addr} {c : List (List Int)} : CallF A H0 H a c → CallH A H a c := fun ⟨dx, n, rs, as, op, nums, rows, e, h1, h2, h3, h4, _⟩ => ⟨dx, n, rs, as, op, nums, rows, e, h1, h2, h3, L2.Paired.mapP h4 fun _ _ z => z.1⟩
structure WAns (A : Ads) (a d D : Addr) (cs : List (List (List Int))) (H3 H4 : Hp) (j : Nat) (σ : L2.St) (H' : Hp) : Prop where
  mk0 ::
  ex : ∃ (st : Vbndal.State) (fs : List Int) (u v : Option V), σ = [some (.ref a), some (.ref d), some (.ref D), u, v] ∧ (∀ b o, H3 b = none → H4 b = some o → H' b = some o) ∧ DkX A D H' d st ∧ H' D = some (IL fs) ∧ FOk fs ∧
    PyFlat.told (PyFlat.played VbndalNeutral.step VbndalNeutral.start cs) = fs ++ PyFlat.told (PyFlat.played VbndalNeutral.step st (cs.drop j))
theorem ok_answers {P : Program} {w : World} {K : PySem.W.Frag} {mg : Str → Option Value} {base : Heap} {A : Ads} (T : Txt K mg A) {f : Addr} {fd : FuncData} (F : Fun K "answers" "answers" s_answers f fd) : FnOk P w K mg base CX0 10 f fd ["calls"] (sp_row K) := by
  refine F.ok sc_answers (fun vs H Q E h => by obtain ⟨_, _, rfl, _⟩ := h; rfl) (fun cdv Ar outer s H vs Q E hr h => ⟨_, (pss_cons (ps_set (i := 1) sc_answers.nd rfl (.inl rfl) (pe_mk0 (mk_Desk T) (hr.mono (by decide)))) (pss_cons (ps_set (i := 2) sc_answers.nd rfl (.inl rfl) (pe_lst pa_nil)) (pss_cons (ps_for PassesOwn.never rfl (pi_RL K (pe_fn (fn_read_calls T) (hr.mono (by decide)) pass0 (pa_cons (pv 0) pa_nil))) (pg_name (i := 3) sc_answers.nd rfl (Or.inl rfl)) (pss_cons (ps_set (i := 4) sc_answers.nd rfl (.inl rfl) (pe_fn (fn_answer_of T) (hr.mono (by decide)) pass0 (pa_cons (pv 1) (pa_cons (pv 3) pa_nil)))) (pss_one (ps_expr (pe_lm PySem.F.plainAttrs_list PySem.F.slot_list_extend PySem.F.type_list_extend ext_I (pv 2) (pa_cons (pe_op op_catI (pe_lstI (pa_cons (pe_callB len_I (by rfl) T.b_len (by decide +kernel) (pa_cons (pv 4) pa_nil)) pa_nil)) (pv 4)) pa_nil)))))) (pss_one (ps_ret (pv 2)))))), ?_⟩)
  obtain ⟨a, ns, rfl, ha, hnl, hask, q⟩ := h
  obtain ⟨cs, hcs, hall, hans, hlen⟩ := asked_of hask
  walk_at "r0"
  intro d dx hd hdx hne
  refine ⟨d, dx, rfl, upd_same, rfl, Nat.zero_le _, fun D hD => ?_⟩
  have s1 := Same.mk hd hdx (o := .own d) (u := .ins A.dsk dx []) (w := .ins A.dsk dx (dskF .non))
  have hd2 : (upd (upd (upd H dx (.own d)) d (.ins A.dsk dx [])) d (.ins A.dsk dx (dskF .non))) d = some (.ins A.dsk dx (dskF .non)) := upd_same
  generalize upd (upd (upd H dx (.own d)) d (.ins A.dsk dx [])) d (.ins A.dsk dx (dskF .non)) = H2 at s1 hd2 hD ⊢
  have sD := Same.new (o := .lst []) hD
  have hD3 : (upd H2 D (.lst [])) D = some (IL []) := upd_same
  have hd3 := sD _ _ hd2
  generalize upd H2 D (.lst []) = H3 at sD hD3 hd3 ⊢
  refine ⟨a, ns, cs, rfl, (s1.trans sD).seq ha, by omega, hcs, fun H4 b as s4 hb hpd hbn => ?_⟩
  refine ⟨b, rfl, ⟨_, hb⟩, ?_⟩
  have hpl := paired_len hpd
  refine for_w walk_RL (WAns A a d D cs H3 H4) ⟨none, [], none, none, rfl, fun _ _ _ h => h, ⟨dx, _, s4 _ _ hd3, rfl⟩, s4 _ _ hD3, .inl rfl, rfl⟩ (fun j σ H' _ hh => by obtain ⟨st, fs, u, v, e, keep, _⟩ := hh; exact keep _ _ hbn hb) (fun j x σ H6 H7 hlt hh y => ?_) fun σ H6 hh => ?_
  · obtain ⟨st, fs, u, v, rfl, keep, hdk, hDv, hF, he⟩ := hh
    obtain ⟨rfl, cl, hcl, rfl⟩ := y
    obtain ⟨c, hc⟩ : ∃ c, cs[j]? = some c := ⟨cs[j]'(by omega), List.getElem?_eq_getElem (by omega)⟩
    have hcH : CallH A H7 cl c := (CallF.up keep (paired_get hpd hcl hc)).h
    obtain ⟨hca, hcs3⟩ := hall c (mem_of_get hc)
    walk_at "r0"
    refine ⟨d, cl, D, st, fs, c, rfl, hdk, hDv, hF, hcH, hca, hcs3, fun H8 b8 bt hdk8 hb8 hl8 => ?_⟩
    dsimp only
    have hDd : D ≠ d := by
      obtain ⟨dz, vz, hz, _⟩ := hdk
      exact ne_of hDv hz (fun z => nomatch z)
    have D8 := bt _ _ hDd hDv
    rw [drop_more hc] at he
    have he2 : PyFlat.told (PyFlat.played VbndalNeutral.step VbndalNeutral.start cs) = (fs ++ (((VbndalNeutral.step st c).2.length : Int) :: (VbndalNeutral.step st c).2)) ++ PyFlat.told (PyFlat.played VbndalNeutral.step (VbndalNeutral.step st c).1 (cs.drop (j + 1))) := by
      rw [he, List.append_assoc]
      rfl
    have hsz : fs.length + ((VbndalNeutral.step st c).2.length + 1) ≤ 10000000 := by
      rw [hans, he2, List.length_append, List.length_append, List.length_cons] at hlen
      omega
    refine ⟨⟨_, D8⟩, b8, rfl, _, hb8, fun p hp => ⟨b8, rfl, _, Same.new hp _ _ hb8, by rw [sizeLine_eq]; omega, fun p1 hp1 => ⟨_, Same.new hp1 _ _ (Same.new hp _ _ D8), by rw [sizeLine_eq]; omega, ?_⟩⟩⟩
    have S8 := (Same.new (o := IL [((VbndalNeutral.step st c).2.length : Int)]) hp).trans (Same.new (o := IL (((VbndalNeutral.step st c).2.length : Int) :: (VbndalNeutral.step st c).2)) hp1)
    refine ⟨(VbndalNeutral.step st c).1, _, _, _, rfl, fun b0 o h3 h4 => ?_, DkX.upd ⟨_, S8 _ _ D8⟩ (hdk8.mono S8 ⟨_, D8⟩), upd_same, ?_, he2⟩
    · have n1 : b0 ≠ d := fun z => by rw [z, hd3] at h3; cases h3
      have n2 : b0 ≠ D := fun z => by rw [z, hD3] at h3; cases h3
      rw [upd_ne n2]
      exact S8 _ _ (bt _ _ n1 (keep _ _ h3 h4))
    · obtain ⟨a0, r0, ea, ha0⟩ := step_head (s := st) hcs3
      rw [ea]
      rcases hF with rfl | ⟨x, y, r1, rfl, hy⟩
      · exact .inr ⟨_, a0, r0, rfl, ha0⟩
      · exact .inr ⟨x, y, _, rfl, hy⟩
  · obtain ⟨st, fs, u, v, rfl, keep, hdk, hDv, hF, he⟩ := hh
    walk_at "r0"
    refine q _ _ ?_
    rw [hpl, List.drop_length] at he
    have he : PyFlat.told (PyFlat.played VbndalNeutral.step VbndalNeutral.start cs) = fs ++ [] := he
    rw [List.append_nil] at he
    rw [hans, he]
    exact hDv
end
end Cl
set_option Elab.async false
set_option linter.all false
set_option maxRecDepth 100000
set_option maxHeartbeats 4000000
/-! # cardlocks: what the top has written -/
namespace Cl
open PySem PySem.Spec PyProof.Rows L2
open PySem.W (mg_of mg_none_of)
abbrev BindOk (x qual : Str) (st : Stmt) (ps : List Str) : Prop := ∀ (kV doc pm : Value) (an : Option Addr) (cdv ct : Value) (us : List Value), us.length = ps.length → bindArgs (PySem.W.fnOf x qual (defArgs st) (defBody st) (defScope st) .none kV doc pm an cdv ct) ⟨us, []⟩ = pure (ps.zip us)
section
variable {K : PySem.W.Frag} {h : Heap} {mg : Str → Option Value} {x qual m : Str} {st : Stmt} {ps : List Str} {f C : Addr} {oc : Value} {od an : Option Addr} {osl : Array (Option Value)} {kV doc pm cdv ct : Value}
theorem def_mk (X : K.In h) (G : h.Ns mainGlobals mg) (a : PySem.W.nsIn K mainGlobals x = some (some (.ref f))) (l : K.lookup f = some ⟨oc, od, .func (PySem.W.fnOf x x (defArgs st) (defBody st) (defScope st) .none kV doc pm an cdv ct), osl⟩) (c : PySem.W.codeIn K cdv x = true) (k : PySem.W.keepIn K (.ref f) = true) (b : BindOk x x st ps) : DefAt K mg x st ps :=
  ⟨f, _, fun_mk l c k, mg_of X G a, (fun_mk l c k).binds b⟩
theorem deff_mk (X : K.In h) (G : h.Ns mainGlobals mg) (a : PySem.W.nsIn K mainGlobals x = some (some (.ref f))) (l : K.lookup f = some ⟨oc, od, .func (PySem.W.fnOf x x (defArgs st) (defBody st) (defScope st) .none kV doc pm an cdv ct), osl⟩) (c : PySem.W.codeIn K cdv x = true) (k : PySem.W.keepIn K (.ref f) = true) (b : BindOk x x st ps) : DefF K mg x f st ps :=
  ⟨mg_of X G a, _, fun_mk l c k, (fun_mk l c k).binds b⟩
theorem mth_mk (a : PySem.W.findIn K (.ref C) m = some (some (.ref f))) (i : PySem.W.isFn K (.ref f) = true) (l : K.lookup f = some ⟨oc, od, .func (PySem.W.fnOf m qual (defArgs st) (defBody st) (defScope st) .none kV doc pm an cdv ct), osl⟩) (c : PySem.W.codeIn K cdv qual = true) (k : PySem.W.keepIn K (.ref f) = true) (b : BindOk m qual st ps) : MthDef K C m qual st ps :=
  ⟨f, _, fun_mk l c k, ⟨a, i, k⟩, (fun_mk l c k).binds b⟩
theorem cls_mk (X : K.In h) (G : h.Ns mainGlobals mg) (g : PySem.W.nsIn K mainGlobals x = some (some (.ref C))) (pg : PySem.W.plainGet K C Str.empty = true) (hd : PySem.W.hasDictIn K C = true) (po : PySem.W.plainOver K C = true) (sa : PySem.W.findIn K (.ref C) "__setattr__" = some (some (.builtin "object.__setattr__"))) (mk : PySem.W.makesIn K C = true) (kc : PySem.W.keepIn K (.ref C) = true)
    (a : PySem.W.findIn K (.ref C) "__init__" = some (some (.ref f))) (i : PySem.W.isFn K (.ref f) = true) (l : K.lookup f = some ⟨oc, od, .func (PySem.W.fnOf "__init__" qual (defArgs st) (defBody st) (defScope st) .none kV doc pm an cdv ct), osl⟩) (c : PySem.W.codeIn K cdv qual = true) (k : PySem.W.keepIn K (.ref f) = true) (b : BindOk "__init__" qual st ps) : ClsDef K mg x qual C st ps :=
  ⟨⟨pg, hd, po, sa⟩, mg_of X G g, f, _, fun_mk l c k, ⟨mk, a, i, kc⟩, (fun_mk l c k).binds b⟩
/-- whether an error of the class at R is one of the class at S -/
theorem exm_of {K : PySem.W.Frag} {R S : Addr} {b : Bool} (h1 : PySem.W.subIn K (.ref S) (.type "BaseException") = some true) (h2 : PySem.W.isClsIn K S = true) (h3 : PySem.W.typeIn K (.ref S) = some (.type "type")) (h4 : PySem.W.subIn K (.ref R) (.ref S) = some b) : PySem.W.exmOne K (.ref R) (.ref S) = some b := by
  unfold PySem.W.exmOne
  rw [if_pos (by rw [h1]; rfl)]
  unfold PySem.W.isClsIn at h2
  show (if ((PySem.W.clsIn K S).isSome && PySem.W.typeIn K (.ref S) == some (.type "type")) = true then PySem.W.subIn K (.ref R) (.ref S) else none) = some b
  rw [if_pos (by rw [h2, h3]; rfl)]
  exact h4
theorem err_mk {nm q : Str} {N : Addr} {bs bm : List Value} {sn : List Str} {sub : List Value} {ab : Bool} {col : Option Bool} {dd : Option Addr} {m0 m1 m2 m3 m5 : Option Value} (X : K.In h) (G : h.Ns mainGlobals mg) (g : PySem.W.nsIn K mainGlobals x = some (some (.ref C)))
    (xL : K.lookup C = some (excClassObj nm q C N bs bm true sn sub ab col dd m0 m1 m2 m3 m5 "ValueError.__new__")) (hbm : PySem.HandSPX.refsVE bm = true)
    (sa : PySem.W.findIn K (.ref C) "__setattr__" = some (some (.builtin "object.__setattr__"))) (ga : PySem.W.findIn K (.ref C) "__getattribute__" = some (some (.builtin "BaseException.__getattribute__"))) (gg : PySem.W.findIn K (.ref C) "__getattr__" = some none)
    (kC : PySem.W.keepIn K (.ref C) = true) (eC : PySem.W.subIn K (.ref C) (.type "BaseException") = some true) (tC : PySem.W.typeIn K (.ref C) = some (.type "type")) (hC : PySem.W.hasDictIn K C = true) (iC : PySem.W.isClsIn K C = true) (sC : PySem.W.subIn K (.ref C) (.ref C) = some true)
    (a : PySem.W.findIn K (.ref C) "__init__" = some (some (.ref f))) (t : PySem.W.typeIn K (.ref f) = some (.type "function")) (l : K.lookup f = some ⟨oc, od, .func (PySem.W.fnOf "__init__" qual (defArgs st) (defBody st) (defScope st) .none kV doc pm an cdv ct), osl⟩) (c : PySem.W.codeIn K cdv qual = true) (k : PySem.W.keepIn K (.ref f) = true) (b : BindOk "__init__" qual st ps) : ErrDef K mg x qual C st ps :=
  ⟨⟨⟨nm, q, N, bs, bm, sn, sub, ab, col, dd, m0, m1, m2, m3, m5, xL, hbm⟩, sa, eC, tC, kC⟩, ⟨ga, gg, eC, hC⟩, mg_of X G g, exm_of eC iC tC sC, f, _, fun_mk l c k, a, t, (fun_mk l c k).binds b⟩
theorem kint_mk {i : Int} {t : Tok} (X : K.In h) (G : h.Ns mainGlobals mg) (a : PySem.W.nsIn K mainGlobals x = some (some (.int i t))) : KInt mg x i := ⟨t, mg_of X G a⟩
theorem kstr_mk {z : Str} {t : Tok} (X : K.In h) (G : h.Ns mainGlobals mg) (a : PySem.W.nsIn K mainGlobals x = some (some (.str z t))) : KStr mg x z := ⟨t, mg_of X G a⟩
theorem ktup_mk {xs : List V} {its : Array Value} {n : Nat} (X : K.In h) (G : h.Ns mainGlobals mg) (a : PySem.W.nsIn K mainGlobals x = some (some (.ref C))) (l : K.lookup C = some ⟨.type "tuple", od, .seq its n, osl⟩) (z : its.size ≤ sizeLine) (v : Vals xs its.toList) : KTup K mg x C xs := ⟨mg_of X G a, _, its, n, l, rfl, rfl, z, v⟩
end
theorem txt_mk {K : PySem.W.Frag} {mg : Str → Option Value} {q_tok q_rdr q_ply q_tbl q_cal q_dsk q_ref q_spo q_d0 q_d1 q_d2 q_d3 q_d4 q_d5 q_d6 q_d7 q_d8 q_d9 q_d10 q_d11 q_d12 q_d13 q_d14 q_d15 q_d16 q_spaces q_quoted q_nums q_rws q_deeds : Addr} (d_power_of : DefAt K mg "power_of" s_power_of ["base", "exponent", "prime"])
    (d_common_divisor : DefAt K mg "common_divisor" s_common_divisor ["one", "other"])
    (d_is_prime : DefAt K mg "is_prime" s_is_prime ["number"])
    (d_half_of : DefAt K mg "half_of" s_half_of ["prime"])
    (d_is_table_prime : DefAt K mg "is_table_prime" s_is_table_prime ["number"])
    (d_is_square : DefAt K mg "is_square" s_is_square ["number", "prime"])
    (d_is_card : DefAt K mg "is_card" s_is_card ["number", "prime"])
    (d_is_key : DefAt K mg "is_key" s_is_key ["number", "prime"])
    (d_cards_of : DefAt K mg "cards_of" s_cards_of ["prime"])
    (d_locked : DefAt K mg "locked" s_locked ["card", "key", "prime"])
    (d_inverse_of : DefAt K mg "inverse_of" s_inverse_of ["key", "prime"])
    (d_joint_of : DefAt K mg "joint_of" s_joint_of ["keys", "prime"])
    (e_Refused : ErrDef K mg "Refused" "Refused.__init__" q_ref s_Refused___init__ ["self", "code"])
    (e_Spoilt : ErrDef K mg "Spoilt" "Spoilt.__init__" q_spo s_Spoilt___init__ ["self", "code", "offset"])
    (d_need : DefAt K mg "need" s_need ["good"])
    (d_locked_row : DefAt K mg "locked_row" s_locked_row ["row", "key", "prime"])
    (d_shuffled : DefAt K mg "shuffled" s_shuffled ["row", "key", "order", "prime"])
    (d_order_of : DefAt K mg "order_of" s_order_of ["row", "key", "cards", "prime"])
    (d_errors_of : DefAt K mg "errors_of" s_errors_of ["row", "key", "cards", "prime"])
    (d_opened_place : DefAt K mg "opened_place" s_opened_place ["row", "key", "card", "prime"])
    (d_factorial_of : DefAt K mg "factorial_of" s_factorial_of ["number"])
    (d_are_different : DefAt K mg "are_different" s_are_different ["things"])
    (d_parts_of : DefAt K mg "parts_of" s_parts_of ["numbers", "size"])
    (d_check_text : DefAt K mg "check_text" s_check_text ["text"])
    (d_check_card : DefAt K mg "check_card" s_check_card ["card", "table"])
    (d_check_key : DefAt K mg "check_key" s_check_key ["key", "table"])
    (d_check_keys : DefAt K mg "check_keys" s_check_keys ["keys", "table"])
    (d_check_row : DefAt K mg "check_row" s_check_row ["row", "table"])
    (d_check_cards : DefAt K mg "check_cards" s_check_cards ["cards", "many", "table"])
    (d_check_order : DefAt K mg "check_order" s_check_order ["order", "many"])
    (d_check_position : DefAt K mg "check_position" s_check_position ["position", "many"])
    (d_check_revealed : DefAt K mg "check_revealed" s_check_revealed ["keys", "table"])
    (d_check_shown : DefAt K mg "check_shown" s_check_shown ["shown", "many", "table"])
    (d_check_number : DefAt K mg "check_number" s_check_number ["number", "table"])
    (d_check_exponent : DefAt K mg "check_exponent" s_check_exponent ["exponent", "table"])
    (c_Token : ClsDef K mg "Token" "Token.__init__" q_tok s_Token___init__ ["self", "kind", "offset", "signs"])
    (m_Token_number : MthDef K q_tok "number" "Token.number" s_Token_number ["self"])
    (d_is_letter : DefAt K mg "is_letter" s_is_letter ["sign"])
    (d_is_digit : DefAt K mg "is_digit" s_is_digit ["sign"])
    (d_behind_letters : DefAt K mg "behind_letters" s_behind_letters ["text", "at"])
    (d_behind_digits : DefAt K mg "behind_digits" s_behind_digits ["text", "at"])
    (d_is_number : DefAt K mg "is_number" s_is_number ["signs"])
    (d_token_at : DefAt K mg "token_at" s_token_at ["text", "at"])
    (d_tokens_of : DefAt K mg "tokens_of" s_tokens_of ["text"])
    (c_Reader : ClsDef K mg "Reader" "Reader.__init__" q_rdr s_Reader___init__ ["self", "tokens"])
    (m_Reader_next_kind : MthDef K q_rdr "next_kind" "Reader.next_kind" s_Reader_next_kind ["self"])
    (m_Reader_take : MthDef K q_rdr "take" "Reader.take" s_Reader_take ["self", "kind"])
    (m_Reader_take_word : MthDef K q_rdr "take_word" "Reader.take_word" s_Reader_take_word ["self", "signs"])
    (c_Player : ClsDef K mg "Player" "Player.__init__" q_ply s_Player___init__ ["self", "name", "key"])
    (c_Table : ClsDef K mg "Table" "Table.__init__" q_tbl s_Table___init__ ["self", "prime", "deck", "players"])
    (d_signs_of : DefAt K mg "signs_of" s_signs_of ["text"])
    (d_read_prime : DefAt K mg "read_prime" s_read_prime ["reader"])
    (d_read_card : DefAt K mg "read_card" s_read_card ["reader", "prime", "deck"])
    (d_read_deck : DefAt K mg "read_deck" s_read_deck ["reader", "prime"])
    (d_read_name : DefAt K mg "read_name" s_read_name ["reader", "players"])
    (d_read_key : DefAt K mg "read_key" s_read_key ["reader", "prime"])
    (d_read_player : DefAt K mg "read_player" s_read_player ["reader", "prime", "players"])
    (d_read_table : DefAt K mg "read_table" s_read_table ["text"])
    (d_line_of : DefAt K mg "line_of" s_line_of ["words"])
    (d_text_of : DefAt K mg "text_of" s_text_of ["table"])
    (d_keys_of : DefAt K mg "keys_of" s_keys_of ["table"])
    (d_print_table : DefF K mg "print_table" q_d0 s_print_table ["table", "numbers", "rows"])
    (d_status : DefF K mg "status" q_d1 s_status ["table", "numbers", "rows"])
    (d_all_cards : DefF K mg "all_cards" q_d2 s_all_cards ["table", "numbers", "rows"])
    (d_lock : DefF K mg "lock" q_d3 s_lock ["table", "numbers", "rows"])
    (d_unlock : DefF K mg "unlock" q_d4 s_unlock ["table", "numbers", "rows"])
    (d_inverse_key : DefF K mg "inverse_key" q_d5 s_inverse_key ["table", "numbers", "rows"])
    (d_joint_key : DefF K mg "joint_key" q_d6 s_joint_key ["table", "numbers", "rows"])
    (d_check_lock : DefF K mg "check_lock" q_d7 s_check_lock ["table", "numbers", "rows"])
    (d_shuffle_row : DefF K mg "shuffle_row" q_d8 s_shuffle_row ["table", "numbers", "rows"])
    (d_check_shuffle : DefF K mg "check_shuffle" q_d9 s_check_shuffle ["table", "numbers", "rows"])
    (d_check_symmetry : DefF K mg "check_symmetry" q_d10 s_check_symmetry ["table", "numbers", "rows"])
    (d_audit_deal : DefF K mg "audit_deal" q_d11 s_audit_deal ["table", "numbers", "rows"])
    (d_remaining_orders : DefF K mg "remaining_orders" q_d12 s_remaining_orders ["table", "numbers", "rows"])
    (d_deal : DefF K mg "deal" q_d13 s_deal ["table", "numbers", "rows"])
    (d_check_orders : DefAt K mg "check_orders" s_check_orders ["numbers", "many", "players"])
    (d_opened : DefF K mg "opened" q_d14 s_opened ["table", "numbers", "rows"])
    (d_audit_opening : DefF K mg "audit_opening" q_d15 s_audit_opening ["table", "numbers", "rows"])
    (d_raised : DefF K mg "raised" q_d16 s_raised ["table", "numbers", "rows"])
    (c_Call : ClsDef K mg "Call" "Call.__init__" q_cal s_Call___init__ ["self", "operation", "numbers", "rows"])
    (c_Desk : ClsDef K mg "Desk" "Desk.__init__" q_dsk s_Desk___init__ ["self"])
    (m_Desk_load : MthDef K q_dsk "load" "Desk.load" s_Desk_load ["self", "text"])
    (m_Desk_clear_all : MthDef K q_dsk "clear_all" "Desk.clear_all" s_Desk_clear_all ["self"])
    (d_read_call : DefAt K mg "read_call" s_read_call ["numbers", "at"])
    (d_read_calls : DefAt K mg "read_calls" s_read_calls ["numbers"])
    (d_fields_of : DefAt K mg "fields_of" s_fields_of ["desk", "call"])
    (d_answer_of : DefAt K mg "answer_of" s_answer_of ["desk", "call"])
    (d_answers : DefAt K mg "answers" s_answers ["calls"])
    (n_Token_kind : NoAttr K q_tok "kind")
    (n_Token_offset : NoAttr K q_tok "offset")
    (n_Token_signs : NoAttr K q_tok "signs")
    (n_Reader_tokens : NoAttr K q_rdr "tokens")
    (n_Reader_read : NoAttr K q_rdr "read")
    (n_Player_name : NoAttr K q_ply "name")
    (n_Player_key : NoAttr K q_ply "key")
    (n_Table_prime : NoAttr K q_tbl "prime")
    (n_Table_deck : NoAttr K q_tbl "deck")
    (n_Table_players : NoAttr K q_tbl "players")
    (n_Call_operation : NoAttr K q_cal "operation")
    (n_Call_numbers : NoAttr K q_cal "numbers")
    (n_Call_rows : NoAttr K q_cal "rows")
    (n_Desk_table : NoAttr K q_dsk "table")
    (n_Refused_code : NoAttr K q_ref "code")
    (n_Spoilt_code : NoAttr K q_spo "code")
    (n_Spoilt_offset : NoAttr K q_spo "offset")
    (b_all : mg "all" = none)
    (b_enumerate : mg "enumerate" = none)
    (b_int : mg "int" = none)
    (b_len : mg "len" = none)
    (b_list : mg "list" = none)
    (b_ord : mg "ord" = none)
    (b_range : mg "range" = none)
    (b_sorted : mg "sorted" = none)
    (b_str : mg "str" = none)
    (b_zip : mg "zip" = none)
    (k_LEAST_PRIME : KInt mg "LEAST_PRIME" (11))
    (k_GREATEST_PRIME : KInt mg "GREATEST_PRIME" (983))
    (k_BAD_ARGUMENT : KInt mg "BAD_ARGUMENT" (-1))
    (k_NOT_IN_DECK : KInt mg "NOT_IN_DECK" (-6))
    (k_NO_TABLE : KInt mg "NO_TABLE" (-20))
    (k_FEWEST : KInt mg "FEWEST" (1))
    (k_MOST : KInt mg "MOST" (10))
    (k_MOST_BYTES : KInt mg "MOST_BYTES" (800))
    (k_MOST_KEYS : KInt mg "MOST_KEYS" (20))
    (k_SPACES : KTup K mg "SPACES" q_spaces [.int 10, .int 32])
    (k_SEMICOLON : KInt mg "SEMICOLON" (59))
    (k_ZERO : KInt mg "ZERO" (48))
    (k_LONGEST_WORD : KInt mg "LONGEST_WORD" (8))
    (k_LONGEST_NUMBER : KInt mg "LONGEST_NUMBER" (3))
    (k_WORD : KInt mg "WORD" (1))
    (k_NUMBER : KInt mg "NUMBER" (2))
    (k_MARK : KInt mg "MARK" (3))
    (k_WRONG : KInt mg "WRONG" (4))
    (k_END : KInt mg "END" (5))
    (k_NOT_ALLOWED : KInt mg "NOT_ALLOWED" (1))
    (k_MOST_CARDS : KInt mg "MOST_CARDS" (10))
    (k_MOST_PLAYERS : KInt mg "MOST_PLAYERS" (4))
    (k_TWICE : KInt mg "TWICE" (3))
    (k_NOT_SUCH : KInt mg "NOT_SUCH" (4))
    (k_PRIME : KStr mg "PRIME" "prime")
    (k_DECK : KStr mg "DECK" "deck")
    (k_PLAYER : KStr mg "PLAYER" "player")
    (k_KEY : KStr mg "KEY" "key")
    (k_QUOTED : KTup K mg "QUOTED" q_quoted [.str "prime", .str "deck", .str "player", .str "key"])
    (k_LOAD : KInt mg "LOAD" (0))
    (k_CHECK : KInt mg "CHECK" (1))
    (k_CLEAR : KInt mg "CLEAR" (19))
    (k_NUMBERS : KTup K mg "NUMBERS" q_nums [.int 0, .int 0, .int 0, .int 0, .int 0, .int 2, .int 2, .int 1, .int 0, .int 3, .int 1, .int 1, .int 1, .int 0, .int 0, .int 0, .int 1, .int 1, .int 2, .int 0])
    (k_ROWS : KTup K mg "ROWS" q_rws [.int 1, .int 1, .int 0, .int 0, .int 0, .int 0, .int 0, .int 0, .int 1, .int 0, .int 2, .int 2, .int 1, .int 2, .int 3, .int 1, .int 1, .int 3, .int 0, .int 0])
    (k_FIRST_DEED : KInt mg "FIRST_DEED" (2))
    (k_DEEDS : KTup K mg "DEEDS" q_deeds [.ref q_d0, .ref q_d1, .ref q_d2, .ref q_d3, .ref q_d4, .ref q_d5, .ref q_d6, .ref q_d7, .ref q_d8, .ref q_d9, .ref q_d10, .ref q_d11, .ref q_d12, .ref q_d13, .ref q_d14, .ref q_d15, .ref q_d16])
    (x_ref_spo : PySem.W.exmOne K (.ref q_ref) (.ref q_spo) = some false) : Txt K mg ⟨q_tok, q_rdr, q_ply, q_tbl, q_cal, q_dsk, q_ref, q_spo, q_d0, q_d1, q_d2, q_d3, q_d4, q_d5, q_d6, q_d7, q_d8, q_d9, q_d10, q_d11, q_d12, q_d13, q_d14, q_d15, q_d16, q_spaces, q_quoted, q_nums, q_rws, q_deeds⟩ := ⟨d_power_of, d_common_divisor, d_is_prime, d_half_of, d_is_table_prime, d_is_square, d_is_card, d_is_key, d_cards_of, d_locked, d_inverse_of, d_joint_of, e_Refused, e_Spoilt, d_need, d_locked_row, d_shuffled, d_order_of, d_errors_of, d_opened_place, d_factorial_of, d_are_different, d_parts_of, d_check_text, d_check_card, d_check_key, d_check_keys, d_check_row, d_check_cards, d_check_order, d_check_position, d_check_revealed, d_check_shown, d_check_number, d_check_exponent, c_Token, m_Token_number, d_is_letter, d_is_digit, d_behind_letters, d_behind_digits, d_is_number, d_token_at, d_tokens_of, c_Reader, m_Reader_next_kind, m_Reader_take, m_Reader_take_word, c_Player, c_Table, d_signs_of, d_read_prime, d_read_card, d_read_deck, d_read_name, d_read_key, d_read_player, d_read_table, d_line_of, d_text_of, d_keys_of, d_print_table, d_status, d_all_cards, d_lock, d_unlock, d_inverse_key, d_joint_key, d_check_lock, d_shuffle_row, d_check_shuffle, d_check_symmetry, d_audit_deal, d_remaining_orders, d_deal, d_check_orders, d_opened, d_audit_opening, d_raised, c_Call, c_Desk, m_Desk_load, m_Desk_clear_all, d_read_call, d_read_calls, d_fields_of, d_answer_of, d_answers, n_Token_kind, n_Token_offset, n_Token_signs, n_Reader_tokens, n_Reader_read, n_Player_name, n_Player_key, n_Table_prime, n_Table_deck, n_Table_players, n_Call_operation, n_Call_numbers, n_Call_rows, n_Desk_table, n_Refused_code, n_Spoilt_code, n_Spoilt_offset, b_all, b_enumerate, b_int, b_len, b_list, b_ord, b_range, b_sorted, b_str, b_zip, k_LEAST_PRIME, k_GREATEST_PRIME, k_BAD_ARGUMENT, k_NOT_IN_DECK, k_NO_TABLE, k_FEWEST, k_MOST, k_MOST_BYTES, k_MOST_KEYS, k_SPACES, k_SEMICOLON, k_ZERO, k_LONGEST_WORD, k_LONGEST_NUMBER, k_WORD, k_NUMBER, k_MARK, k_WRONG, k_END, k_NOT_ALLOWED, k_MOST_CARDS, k_MOST_PLAYERS, k_TWICE, k_NOT_SUCH, k_PRIME, k_DECK, k_PLAYER, k_KEY, k_QUOTED, k_LOAD, k_CHECK, k_CLEAR, k_NUMBERS, k_ROWS, k_FIRST_DEED, k_DEEDS, x_ref_spo⟩
theorem bi_d_power_of : BindOk "power_of" "power_of" s_power_of ["base", "exponent", "prime"] := fun _ _ _ _ _ _ us hl => match us, hl with | [_, _, _], _ => rfl
theorem bi_d_common_divisor : BindOk "common_divisor" "common_divisor" s_common_divisor ["one", "other"] := fun _ _ _ _ _ _ us hl => match us, hl with | [_, _], _ => rfl
theorem bi_d_is_prime : BindOk "is_prime" "is_prime" s_is_prime ["number"] := fun _ _ _ _ _ _ us hl => match us, hl with | [_], _ => rfl
theorem bi_d_half_of : BindOk "half_of" "half_of" s_half_of ["prime"] := fun _ _ _ _ _ _ us hl => match us, hl with | [_], _ => rfl
theorem bi_d_is_table_prime : BindOk "is_table_prime" "is_table_prime" s_is_table_prime ["number"] := fun _ _ _ _ _ _ us hl => match us, hl with | [_], _ => rfl
theorem bi_d_is_square : BindOk "is_square" "is_square" s_is_square ["number", "prime"] := fun _ _ _ _ _ _ us hl => match us, hl with | [_, _], _ => rfl
theorem bi_d_is_card : BindOk "is_card" "is_card" s_is_card ["number", "prime"] := fun _ _ _ _ _ _ us hl => match us, hl with | [_, _], _ => rfl
theorem bi_d_is_key : BindOk "is_key" "is_key" s_is_key ["number", "prime"] := fun _ _ _ _ _ _ us hl => match us, hl with | [_, _], _ => rfl
theorem bi_d_cards_of : BindOk "cards_of" "cards_of" s_cards_of ["prime"] := fun _ _ _ _ _ _ us hl => match us, hl with | [_], _ => rfl
theorem bi_d_locked : BindOk "locked" "locked" s_locked ["card", "key", "prime"] := fun _ _ _ _ _ _ us hl => match us, hl with | [_, _, _], _ => rfl
theorem bi_d_inverse_of : BindOk "inverse_of" "inverse_of" s_inverse_of ["key", "prime"] := fun _ _ _ _ _ _ us hl => match us, hl with | [_, _], _ => rfl
theorem bi_d_joint_of : BindOk "joint_of" "joint_of" s_joint_of ["keys", "prime"] := fun _ _ _ _ _ _ us hl => match us, hl with | [_, _], _ => rfl
theorem bi_e_Refused : BindOk "__init__" "Refused.__init__" s_Refused___init__ ["self", "code"] := fun _ _ _ _ _ _ us hl => match us, hl with | [_, _], _ => rfl
theorem bi_e_Spoilt : BindOk "__init__" "Spoilt.__init__" s_Spoilt___init__ ["self", "code", "offset"] := fun _ _ _ _ _ _ us hl => match us, hl with | [_, _, _], _ => rfl
theorem bi_d_need : BindOk "need" "need" s_need ["good"] := fun _ _ _ _ _ _ us hl => match us, hl with | [_], _ => rfl
theorem bi_d_locked_row : BindOk "locked_row" "locked_row" s_locked_row ["row", "key", "prime"] := fun _ _ _ _ _ _ us hl => match us, hl with | [_, _, _], _ => rfl
theorem bi_d_shuffled : BindOk "shuffled" "shuffled" s_shuffled ["row", "key", "order", "prime"] := fun _ _ _ _ _ _ us hl => match us, hl with | [_, _, _, _], _ => rfl
theorem bi_d_order_of : BindOk "order_of" "order_of" s_order_of ["row", "key", "cards", "prime"] := fun _ _ _ _ _ _ us hl => match us, hl with | [_, _, _, _], _ => rfl
theorem bi_d_errors_of : BindOk "errors_of" "errors_of" s_errors_of ["row", "key", "cards", "prime"] := fun _ _ _ _ _ _ us hl => match us, hl with | [_, _, _, _], _ => rfl
theorem bi_d_opened_place : BindOk "opened_place" "opened_place" s_opened_place ["row", "key", "card", "prime"] := fun _ _ _ _ _ _ us hl => match us, hl with | [_, _, _, _], _ => rfl
theorem bi_d_factorial_of : BindOk "factorial_of" "factorial_of" s_factorial_of ["number"] := fun _ _ _ _ _ _ us hl => match us, hl with | [_], _ => rfl
theorem bi_d_are_different : BindOk "are_different" "are_different" s_are_different ["things"] := fun _ _ _ _ _ _ us hl => match us, hl with | [_], _ => rfl
theorem bi_d_parts_of : BindOk "parts_of" "parts_of" s_parts_of ["numbers", "size"] := fun _ _ _ _ _ _ us hl => match us, hl with | [_, _], _ => rfl
theorem bi_d_check_text : BindOk "check_text" "check_text" s_check_text ["text"] := fun _ _ _ _ _ _ us hl => match us, hl with | [_], _ => rfl
theorem bi_d_check_card : BindOk "check_card" "check_card" s_check_card ["card", "table"] := fun _ _ _ _ _ _ us hl => match us, hl with | [_, _], _ => rfl
theorem bi_d_check_key : BindOk "check_key" "check_key" s_check_key ["key", "table"] := fun _ _ _ _ _ _ us hl => match us, hl with | [_, _], _ => rfl
theorem bi_d_check_keys : BindOk "check_keys" "check_keys" s_check_keys ["keys", "table"] := fun _ _ _ _ _ _ us hl => match us, hl with | [_, _], _ => rfl
theorem bi_d_check_row : BindOk "check_row" "check_row" s_check_row ["row", "table"] := fun _ _ _ _ _ _ us hl => match us, hl with | [_, _], _ => rfl
theorem bi_d_check_cards : BindOk "check_cards" "check_cards" s_check_cards ["cards", "many", "table"] := fun _ _ _ _ _ _ us hl => match us, hl with | [_, _, _], _ => rfl
theorem bi_d_check_order : BindOk "check_order" "check_order" s_check_order ["order", "many"] := fun _ _ _ _ _ _ us hl => match us, hl with | [_, _], _ => rfl
theorem bi_d_check_position : BindOk "check_position" "check_position" s_check_position ["position", "many"] := fun _ _ _ _ _ _ us hl => match us, hl with | [_, _], _ => rfl
theorem bi_d_check_revealed : BindOk "check_revealed" "check_revealed" s_check_revealed ["keys", "table"] := fun _ _ _ _ _ _ us hl => match us, hl with | [_, _], _ => rfl
theorem bi_d_check_shown : BindOk "check_shown" "check_shown" s_check_shown ["shown", "many", "table"] := fun _ _ _ _ _ _ us hl => match us, hl with | [_, _, _], _ => rfl
theorem bi_d_check_number : BindOk "check_number" "check_number" s_check_number ["number", "table"] := fun _ _ _ _ _ _ us hl => match us, hl with | [_, _], _ => rfl
theorem bi_d_check_exponent : BindOk "check_exponent" "check_exponent" s_check_exponent ["exponent", "table"] := fun _ _ _ _ _ _ us hl => match us, hl with | [_, _], _ => rfl
theorem bi_c_Token : BindOk "__init__" "Token.__init__" s_Token___init__ ["self", "kind", "offset", "signs"] := fun _ _ _ _ _ _ us hl => match us, hl with | [_, _, _, _], _ => rfl
theorem bi_m_Token_number : BindOk "number" "Token.number" s_Token_number ["self"] := fun _ _ _ _ _ _ us hl => match us, hl with | [_], _ => rfl
theorem bi_d_is_letter : BindOk "is_letter" "is_letter" s_is_letter ["sign"] := fun _ _ _ _ _ _ us hl => match us, hl with | [_], _ => rfl
theorem bi_d_is_digit : BindOk "is_digit" "is_digit" s_is_digit ["sign"] := fun _ _ _ _ _ _ us hl => match us, hl with | [_], _ => rfl
theorem bi_d_behind_letters : BindOk "behind_letters" "behind_letters" s_behind_letters ["text", "at"] := fun _ _ _ _ _ _ us hl => match us, hl with | [_, _], _ => rfl
theorem bi_d_behind_digits : BindOk "behind_digits" "behind_digits" s_behind_digits ["text", "at"] := fun _ _ _ _ _ _ us hl => match us, hl with | [_, _], _ => rfl
theorem bi_d_is_number : BindOk "is_number" "is_number" s_is_number ["signs"] := fun _ _ _ _ _ _ us hl => match us, hl with | [_], _ => rfl
theorem bi_d_token_at : BindOk "token_at" "token_at" s_token_at ["text", "at"] := fun _ _ _ _ _ _ us hl => match us, hl with | [_, _], _ => rfl
theorem bi_d_tokens_of : BindOk "tokens_of" "tokens_of" s_tokens_of ["text"] := fun _ _ _ _ _ _ us hl => match us, hl with | [_], _ => rfl
theorem bi_c_Reader : BindOk "__init__" "Reader.__init__" s_Reader___init__ ["self", "tokens"] := fun _ _ _ _ _ _ us hl => match us, hl with | [_, _], _ => rfl
theorem bi_m_Reader_next_kind : BindOk "next_kind" "Reader.next_kind" s_Reader_next_kind ["self"] := fun _ _ _ _ _ _ us hl => match us, hl with | [_], _ => rfl
theorem bi_m_Reader_take : BindOk "take" "Reader.take" s_Reader_take ["self", "kind"] := fun _ _ _ _ _ _ us hl => match us, hl with | [_, _], _ => rfl
theorem bi_m_Reader_take_word : BindOk "take_word" "Reader.take_word" s_Reader_take_word ["self", "signs"] := fun _ _ _ _ _ _ us hl => match us, hl with | [_, _], _ => rfl
theorem bi_c_Player : BindOk "__init__" "Player.__init__" s_Player___init__ ["self", "name", "key"] := fun _ _ _ _ _ _ us hl => match us, hl with | [_, _, _], _ => rfl
theorem bi_c_Table : BindOk "__init__" "Table.__init__" s_Table___init__ ["self", "prime", "deck", "players"] := fun _ _ _ _ _ _ us hl => match us, hl with | [_, _, _, _], _ => rfl
theorem bi_d_signs_of : BindOk "signs_of" "signs_of" s_signs_of ["text"] := fun _ _ _ _ _ _ us hl => match us, hl with | [_], _ => rfl
theorem bi_d_read_prime : BindOk "read_prime" "read_prime" s_read_prime ["reader"] := fun _ _ _ _ _ _ us hl => match us, hl with | [_], _ => rfl
theorem bi_d_read_card : BindOk "read_card" "read_card" s_read_card ["reader", "prime", "deck"] := fun _ _ _ _ _ _ us hl => match us, hl with | [_, _, _], _ => rfl
theorem bi_d_read_deck : BindOk "read_deck" "read_deck" s_read_deck ["reader", "prime"] := fun _ _ _ _ _ _ us hl => match us, hl with | [_, _], _ => rfl
theorem bi_d_read_name : BindOk "read_name" "read_name" s_read_name ["reader", "players"] := fun _ _ _ _ _ _ us hl => match us, hl with | [_, _], _ => rfl
theorem bi_d_read_key : BindOk "read_key" "read_key" s_read_key ["reader", "prime"] := fun _ _ _ _ _ _ us hl => match us, hl with | [_, _], _ => rfl
theorem bi_d_read_player : BindOk "read_player" "read_player" s_read_player ["reader", "prime", "players"] := fun _ _ _ _ _ _ us hl => match us, hl with | [_, _, _], _ => rfl
theorem bi_d_read_table : BindOk "read_table" "read_table" s_read_table ["text"] := fun _ _ _ _ _ _ us hl => match us, hl with | [_], _ => rfl
theorem bi_d_line_of : BindOk "line_of" "line_of" s_line_of ["words"] := fun _ _ _ _ _ _ us hl => match us, hl with | [_], _ => rfl
theorem bi_d_text_of : BindOk "text_of" "text_of" s_text_of ["table"] := fun _ _ _ _ _ _ us hl => match us, hl with | [_], _ => rfl
theorem bi_d_keys_of : BindOk "keys_of" "keys_of" s_keys_of ["table"] := fun _ _ _ _ _ _ us hl => match us, hl with | [_], _ => rfl
theorem bi_d_print_table : BindOk "print_table" "print_table" s_print_table ["table", "numbers", "rows"] := fun _ _ _ _ _ _ us hl => match us, hl with | [_, _, _], _ => rfl
theorem bi_d_status : BindOk "status" "status" s_status ["table", "numbers", "rows"] := fun _ _ _ _ _ _ us hl => match us, hl with | [_, _, _], _ => rfl
theorem bi_d_all_cards : BindOk "all_cards" "all_cards" s_all_cards ["table", "numbers", "rows"] := fun _ _ _ _ _ _ us hl => match us, hl with | [_, _, _], _ => rfl
theorem bi_d_lock : BindOk "lock" "lock" s_lock ["table", "numbers", "rows"] := fun _ _ _ _ _ _ us hl => match us, hl with | [_, _, _], _ => rfl
theorem bi_d_unlock : BindOk "unlock" "unlock" s_unlock ["table", "numbers", "rows"] := fun _ _ _ _ _ _ us hl => match us, hl with | [_, _, _], _ => rfl
theorem bi_d_inverse_key : BindOk "inverse_key" "inverse_key" s_inverse_key ["table", "numbers", "rows"] := fun _ _ _ _ _ _ us hl => match us, hl with | [_, _, _], _ => rfl
theorem bi_d_joint_key : BindOk "joint_key" "joint_key" s_joint_key ["table", "numbers", "rows"] := fun _ _ _ _ _ _ us hl => match us, hl with | [_, _, _], _ => rfl
theorem bi_d_check_lock : BindOk "check_lock" "check_lock" s_check_lock ["table", "numbers", "rows"] := fun _ _ _ _ _ _ us hl => match us, hl with | [_, _, _], _ => rfl
theorem bi_d_shuffle_row : BindOk "shuffle_row" "shuffle_row" s_shuffle_row ["table", "numbers", "rows"] := fun _ _ _ _ _ _ us hl => match us, hl with | [_, _, _], _ => rfl
theorem bi_d_check_shuffle : BindOk "check_shuffle" "check_shuffle" s_check_shuffle ["table", "numbers", "rows"] := fun _ _ _ _ _ _ us hl => match us, hl with | [_, _, _], _ => rfl
theorem bi_d_check_symmetry : BindOk "check_symmetry" "check_symmetry" s_check_symmetry ["table", "numbers", "rows"] := fun _ _ _ _ _ _ us hl => match us, hl with | [_, _, _], _ => rfl
theorem bi_d_audit_deal : BindOk "audit_deal" "audit_deal" s_audit_deal ["table", "numbers", "rows"] := fun _ _ _ _ _ _ us hl => match us, hl with | [_, _, _], _ => rfl
theorem bi_d_remaining_orders : BindOk "remaining_orders" "remaining_orders" s_remaining_orders ["table", "numbers", "rows"] := fun _ _ _ _ _ _ us hl => match us, hl with | [_, _, _], _ => rfl
theorem bi_d_deal : BindOk "deal" "deal" s_deal ["table", "numbers", "rows"] := fun _ _ _ _ _ _ us hl => match us, hl with | [_, _, _], _ => rfl
theorem bi_d_check_orders : BindOk "check_orders" "check_orders" s_check_orders ["numbers", "many", "players"] := fun _ _ _ _ _ _ us hl => match us, hl with | [_, _, _], _ => rfl
theorem bi_d_opened : BindOk "opened" "opened" s_opened ["table", "numbers", "rows"] := fun _ _ _ _ _ _ us hl => match us, hl with | [_, _, _], _ => rfl
theorem bi_d_audit_opening : BindOk "audit_opening" "audit_opening" s_audit_opening ["table", "numbers", "rows"] := fun _ _ _ _ _ _ us hl => match us, hl with | [_, _, _], _ => rfl
theorem bi_d_raised : BindOk "raised" "raised" s_raised ["table", "numbers", "rows"] := fun _ _ _ _ _ _ us hl => match us, hl with | [_, _, _], _ => rfl
theorem bi_c_Call : BindOk "__init__" "Call.__init__" s_Call___init__ ["self", "operation", "numbers", "rows"] := fun _ _ _ _ _ _ us hl => match us, hl with | [_, _, _, _], _ => rfl
theorem bi_c_Desk : BindOk "__init__" "Desk.__init__" s_Desk___init__ ["self"] := fun _ _ _ _ _ _ us hl => match us, hl with | [_], _ => rfl
theorem bi_m_Desk_load : BindOk "load" "Desk.load" s_Desk_load ["self", "text"] := fun _ _ _ _ _ _ us hl => match us, hl with | [_, _], _ => rfl
theorem bi_m_Desk_clear_all : BindOk "clear_all" "Desk.clear_all" s_Desk_clear_all ["self"] := fun _ _ _ _ _ _ us hl => match us, hl with | [_], _ => rfl
theorem bi_d_read_call : BindOk "read_call" "read_call" s_read_call ["numbers", "at"] := fun _ _ _ _ _ _ us hl => match us, hl with | [_, _], _ => rfl
theorem bi_d_read_calls : BindOk "read_calls" "read_calls" s_read_calls ["numbers"] := fun _ _ _ _ _ _ us hl => match us, hl with | [_], _ => rfl
theorem bi_d_fields_of : BindOk "fields_of" "fields_of" s_fields_of ["desk", "call"] := fun _ _ _ _ _ _ us hl => match us, hl with | [_, _], _ => rfl
theorem bi_d_answer_of : BindOk "answer_of" "answer_of" s_answer_of ["desk", "call"] := fun _ _ _ _ _ _ us hl => match us, hl with | [_, _], _ => rfl
theorem bi_d_answers : BindOk "answers" "answers" s_answers ["calls"] := fun _ _ _ _ _ _ us hl => match us, hl with | [_], _ => rfl
end Cl
namespace Cl
open PySem PySem.Spec PyProof.Rows L2
open PySem.W (mg_of mg_none_of)
theorem main_F {P : Program} {w : World} {K : PySem.W.Frag} {h : Heap} {mg : Str → Option Value} {fa f : Addr} {A : Ads} {oc : Value} {od an : Option Addr} {osl : Array (Option Value)} {kV doc pm cdv ct : Value} (X : K.In h) (G : h.Ns mainGlobals mg) (hfa : mg "answers" = some (.ref fa)) (T : Txt K mg A)
    (a : PySem.W.nsIn K mainGlobals "answers" = some (some (.ref f))) (l : K.lookup f = some ⟨oc, od, .func (PySem.W.fnOf "answers" "answers" (defArgs s_answers) (defBody s_answers) (defScope s_answers) .none kV doc pm an cdv ct), osl⟩) (c : PySem.W.codeIn K cdv "answers" = true) (k : PySem.W.keepIn K (.ref f) = true) :
    ∃ fd : FuncData, (∀ (s : Shared) (us : List Value), us.length = (["calls"] : List Str).length → BindsTo s fd ⟨us, []⟩ ((["calls"] : List Str).zip us)) ∧ ∀ base : Heap, K.In base → base.Ns mainGlobals mg → FnOk P w K mg base CX0 10 fa fd ["calls"] (sp_row K) := by
  have e := hfa.symm.trans (mg_of X G a)
  cases e
  exact ⟨_, fun s us hu => .of_eq (bi_d_answers _ _ _ _ _ _ us hu), fun base _ _ => ok_answers T (fun_mk l c k)⟩
end Cl
open PySem PySem.W PyProof.Rows
set_option maxRecDepth 100000 in
set_option maxHeartbeats 0 in
theorem PySem.Challenge.cw_cardlocks_s01_answers_holds : PySem.Challenge.rw_cardlocks_s01_answers.Holds := by
  w_on; k_headS; (case hw => exact ⟨[.list [.int 19]], by decide +kernel, by decide +kernel⟩)
  k_fillS
  refine L2.walk_specK (r := PySem.Challenge.rw_cardlocks_s01_answers) (k := 10) (CX := L2.CX0) (ps := ["calls"]) (sp := Cl.sp_row) (by decide +kernel) rfl rfl ⟨rfl, by decide, by decide⟩ (fun w h Y => PySem.W.kIn_of Y) ?F ?S (fun _ _ _ _ z => z)
  case F =>
    intro w mg fa h Y KX G hmg
    refine' Cl.main_F KX G hmg (Cl.txt_mk ?d_power_of ?d_common_divisor ?d_is_prime ?d_half_of ?d_is_table_prime ?d_is_square ?d_is_card ?d_is_key ?d_cards_of ?d_locked ?d_inverse_of ?d_joint_of ?e_Refused ?e_Spoilt ?d_need ?d_locked_row ?d_shuffled ?d_order_of ?d_errors_of ?d_opened_place ?d_factorial_of ?d_are_different ?d_parts_of ?d_check_text ?d_check_card ?d_check_key ?d_check_keys ?d_check_row ?d_check_cards ?d_check_order ?d_check_position ?d_check_revealed ?d_check_shown ?d_check_number ?d_check_exponent ?c_Token ?m_Token_number ?d_is_letter ?d_is_digit ?d_behind_letters ?d_behind_digits ?d_is_number ?d_token_at ?d_tokens_of ?c_Reader ?m_Reader_next_kind ?m_Reader_take ?m_Reader_take_word ?c_Player ?c_Table ?d_signs_of ?d_read_prime ?d_read_card ?d_read_deck ?d_read_name ?d_read_key ?d_read_player ?d_read_table ?d_line_of ?d_text_of ?d_keys_of ?d_print_table ?d_status ?d_all_cards ?d_lock ?d_unlock ?d_inverse_key ?d_joint_key ?d_check_lock ?d_shuffle_row ?d_check_shuffle ?d_check_symmetry ?d_audit_deal ?d_remaining_orders ?d_deal ?d_check_orders ?d_opened ?d_audit_opening ?d_raised ?c_Call ?c_Desk ?m_Desk_load ?m_Desk_clear_all ?d_read_call ?d_read_calls ?d_fields_of ?d_answer_of ?d_answers ?n_Token_kind ?n_Token_offset ?n_Token_signs ?n_Reader_tokens ?n_Reader_read ?n_Player_name ?n_Player_key ?n_Table_prime ?n_Table_deck ?n_Table_players ?n_Call_operation ?n_Call_numbers ?n_Call_rows ?n_Desk_table ?n_Refused_code ?n_Spoilt_code ?n_Spoilt_offset ?b_all ?b_enumerate ?b_int ?b_len ?b_list ?b_ord ?b_range ?b_sorted ?b_str ?b_zip ?k_LEAST_PRIME ?k_GREATEST_PRIME ?k_BAD_ARGUMENT ?k_NOT_IN_DECK ?k_NO_TABLE ?k_FEWEST ?k_MOST ?k_MOST_BYTES ?k_MOST_KEYS ?k_SPACES ?k_SEMICOLON ?k_ZERO ?k_LONGEST_WORD ?k_LONGEST_NUMBER ?k_WORD ?k_NUMBER ?k_MARK ?k_WRONG ?k_END ?k_NOT_ALLOWED ?k_MOST_CARDS ?k_MOST_PLAYERS ?k_TWICE ?k_NOT_SUCH ?k_PRIME ?k_DECK ?k_PLAYER ?k_KEY ?k_QUOTED ?k_LOAD ?k_CHECK ?k_CLEAR ?k_NUMBERS ?k_ROWS ?k_FIRST_DEED ?k_DEEDS ?x_ref_spo) ?zA ?zL ?zC ?zK
    (case e_Refused => refine' Cl.err_mk KX G ?g ?xL ?hbm ?sa ?ga ?gg ?kC ?eC ?tC ?hC ?iC ?sC ?a ?t ?l ?c ?k Cl.bi_e_Refused; (case g => k_is); (case xL => k_is); (case hbm => decide +kernel); (case sa => k_is); (case ga => k_is); (case gg => k_is); (case kC => k_is); (case eC => k_is); (case tC => k_is); (case hC => k_is); (case iC => k_is); (case sC => first | rfl | k_is); (case a => k_is); (case t => k_is); (case l => k_is); (case c => k_is); (case k => k_is))
    (case e_Spoilt => refine' Cl.err_mk KX G ?g ?xL ?hbm ?sa ?ga ?gg ?kC ?eC ?tC ?hC ?iC ?sC ?a ?t ?l ?c ?k Cl.bi_e_Spoilt; (case g => k_is); (case xL => k_is); (case hbm => decide +kernel); (case sa => k_is); (case ga => k_is); (case gg => k_is); (case kC => k_is); (case eC => k_is); (case tC => k_is); (case hC => k_is); (case iC => k_is); (case sC => first | rfl | k_is); (case a => k_is); (case t => k_is); (case l => k_is); (case c => k_is); (case k => k_is))
    (case c_Token => refine' Cl.cls_mk KX G ?g ?pg ?hd ?po ?sa ?mk ?kc ?a ?i ?l ?c ?k Cl.bi_c_Token; (case g => k_is); (case pg => k_is); (case hd => k_is); (case po => k_is); (case sa => k_is); (case mk => k_is); (case kc => k_is); (case a => k_is); (case i => k_is); (case l => k_is); (case c => k_is); (case k => k_is))
    (case c_Reader => refine' Cl.cls_mk KX G ?g ?pg ?hd ?po ?sa ?mk ?kc ?a ?i ?l ?c ?k Cl.bi_c_Reader; (case g => k_is); (case pg => k_is); (case hd => k_is); (case po => k_is); (case sa => k_is); (case mk => k_is); (case kc => k_is); (case a => k_is); (case i => k_is); (case l => k_is); (case c => k_is); (case k => k_is))
    (case c_Player => refine' Cl.cls_mk KX G ?g ?pg ?hd ?po ?sa ?mk ?kc ?a ?i ?l ?c ?k Cl.bi_c_Player; (case g => k_is); (case pg => k_is); (case hd => k_is); (case po => k_is); (case sa => k_is); (case mk => k_is); (case kc => k_is); (case a => k_is); (case i => k_is); (case l => k_is); (case c => k_is); (case k => k_is))
    (case c_Table => refine' Cl.cls_mk KX G ?g ?pg ?hd ?po ?sa ?mk ?kc ?a ?i ?l ?c ?k Cl.bi_c_Table; (case g => k_is); (case pg => k_is); (case hd => k_is); (case po => k_is); (case sa => k_is); (case mk => k_is); (case kc => k_is); (case a => k_is); (case i => k_is); (case l => k_is); (case c => k_is); (case k => k_is))
    (case d_print_table => refine' Cl.deff_mk KX G ?a ?l ?c ?k Cl.bi_d_print_table; (case a => k_is); (case l => k_is); (case c => k_is); (case k => k_is))
    (case d_status => refine' Cl.deff_mk KX G ?a ?l ?c ?k Cl.bi_d_status; (case a => k_is); (case l => k_is); (case c => k_is); (case k => k_is))
    (case d_all_cards => refine' Cl.deff_mk KX G ?a ?l ?c ?k Cl.bi_d_all_cards; (case a => k_is); (case l => k_is); (case c => k_is); (case k => k_is))
    (case d_lock => refine' Cl.deff_mk KX G ?a ?l ?c ?k Cl.bi_d_lock; (case a => k_is); (case l => k_is); (case c => k_is); (case k => k_is))
    (case d_unlock => refine' Cl.deff_mk KX G ?a ?l ?c ?k Cl.bi_d_unlock; (case a => k_is); (case l => k_is); (case c => k_is); (case k => k_is))
    (case d_inverse_key => refine' Cl.deff_mk KX G ?a ?l ?c ?k Cl.bi_d_inverse_key; (case a => k_is); (case l => k_is); (case c => k_is); (case k => k_is))
    (case d_joint_key => refine' Cl.deff_mk KX G ?a ?l ?c ?k Cl.bi_d_joint_key; (case a => k_is); (case l => k_is); (case c => k_is); (case k => k_is))
    (case d_check_lock => refine' Cl.deff_mk KX G ?a ?l ?c ?k Cl.bi_d_check_lock; (case a => k_is); (case l => k_is); (case c => k_is); (case k => k_is))
    (case d_shuffle_row => refine' Cl.deff_mk KX G ?a ?l ?c ?k Cl.bi_d_shuffle_row; (case a => k_is); (case l => k_is); (case c => k_is); (case k => k_is))
    (case d_check_shuffle => refine' Cl.deff_mk KX G ?a ?l ?c ?k Cl.bi_d_check_shuffle; (case a => k_is); (case l => k_is); (case c => k_is); (case k => k_is))
    (case d_check_symmetry => refine' Cl.deff_mk KX G ?a ?l ?c ?k Cl.bi_d_check_symmetry; (case a => k_is); (case l => k_is); (case c => k_is); (case k => k_is))
    (case d_audit_deal => refine' Cl.deff_mk KX G ?a ?l ?c ?k Cl.bi_d_audit_deal; (case a => k_is); (case l => k_is); (case c => k_is); (case k => k_is))
    (case d_remaining_orders => refine' Cl.deff_mk KX G ?a ?l ?c ?k Cl.bi_d_remaining_orders; (case a => k_is); (case l => k_is); (case c => k_is); (case k => k_is))
    (case d_deal => refine' Cl.deff_mk KX G ?a ?l ?c ?k Cl.bi_d_deal; (case a => k_is); (case l => k_is); (case c => k_is); (case k => k_is))
    (case d_opened => refine' Cl.deff_mk KX G ?a ?l ?c ?k Cl.bi_d_opened; (case a => k_is); (case l => k_is); (case c => k_is); (case k => k_is))
    (case d_audit_opening => refine' Cl.deff_mk KX G ?a ?l ?c ?k Cl.bi_d_audit_opening; (case a => k_is); (case l => k_is); (case c => k_is); (case k => k_is))
    (case d_raised => refine' Cl.deff_mk KX G ?a ?l ?c ?k Cl.bi_d_raised; (case a => k_is); (case l => k_is); (case c => k_is); (case k => k_is))
    (case c_Call => refine' Cl.cls_mk KX G ?g ?pg ?hd ?po ?sa ?mk ?kc ?a ?i ?l ?c ?k Cl.bi_c_Call; (case g => k_is); (case pg => k_is); (case hd => k_is); (case po => k_is); (case sa => k_is); (case mk => k_is); (case kc => k_is); (case a => k_is); (case i => k_is); (case l => k_is); (case c => k_is); (case k => k_is))
    (case c_Desk => refine' Cl.cls_mk KX G ?g ?pg ?hd ?po ?sa ?mk ?kc ?a ?i ?l ?c ?k Cl.bi_c_Desk; (case g => k_is); (case pg => k_is); (case hd => k_is); (case po => k_is); (case sa => k_is); (case mk => k_is); (case kc => k_is); (case a => k_is); (case i => k_is); (case l => k_is); (case c => k_is); (case k => k_is))
    (case k_SPACES => refine' Cl.ktup_mk KX G ?a ?l ?z ?v; (case a => k_is); (case l => k_is); (case z => decide +kernel); (case v => repeat (first | exact .nil | refine .cons (by first | rfl | exact ⟨_, rfl⟩) ?_)))
    (case k_QUOTED => refine' Cl.ktup_mk KX G ?a ?l ?z ?v; (case a => k_is); (case l => k_is); (case z => decide +kernel); (case v => repeat (first | exact .nil | refine .cons (by first | rfl | exact ⟨_, rfl⟩) ?_)))
    (case k_NUMBERS => refine' Cl.ktup_mk KX G ?a ?l ?z ?v; (case a => k_is); (case l => k_is); (case z => decide +kernel); (case v => repeat (first | exact .nil | refine .cons (by first | rfl | exact ⟨_, rfl⟩) ?_)))
    (case k_ROWS => refine' Cl.ktup_mk KX G ?a ?l ?z ?v; (case a => k_is); (case l => k_is); (case z => decide +kernel); (case v => repeat (first | exact .nil | refine .cons (by first | rfl | exact ⟨_, rfl⟩) ?_)))
    (case k_DEEDS => refine' Cl.ktup_mk KX G ?a ?l ?z ?v; (case a => k_is); (case l => k_is); (case z => decide +kernel); (case v => repeat (first | exact .nil | refine .cons (by first | rfl | exact ⟨_, rfl⟩) ?_)))
    (case d_power_of => refine' Cl.def_mk KX G ?a ?l ?c ?k Cl.bi_d_power_of; (case a => k_is); (case l => k_is); (case c => k_is); (case k => k_is))
    (case d_common_divisor => refine' Cl.def_mk KX G ?a ?l ?c ?k Cl.bi_d_common_divisor; (case a => k_is); (case l => k_is); (case c => k_is); (case k => k_is))
    (case d_is_prime => refine' Cl.def_mk KX G ?a ?l ?c ?k Cl.bi_d_is_prime; (case a => k_is); (case l => k_is); (case c => k_is); (case k => k_is))
    (case d_half_of => refine' Cl.def_mk KX G ?a ?l ?c ?k Cl.bi_d_half_of; (case a => k_is); (case l => k_is); (case c => k_is); (case k => k_is))
    (case d_is_table_prime => refine' Cl.def_mk KX G ?a ?l ?c ?k Cl.bi_d_is_table_prime; (case a => k_is); (case l => k_is); (case c => k_is); (case k => k_is))
    (case d_is_square => refine' Cl.def_mk KX G ?a ?l ?c ?k Cl.bi_d_is_square; (case a => k_is); (case l => k_is); (case c => k_is); (case k => k_is))
    (case d_is_card => refine' Cl.def_mk KX G ?a ?l ?c ?k Cl.bi_d_is_card; (case a => k_is); (case l => k_is); (case c => k_is); (case k => k_is))
    (case d_is_key => refine' Cl.def_mk KX G ?a ?l ?c ?k Cl.bi_d_is_key; (case a => k_is); (case l => k_is); (case c => k_is); (case k => k_is))
    (case d_cards_of => refine' Cl.def_mk KX G ?a ?l ?c ?k Cl.bi_d_cards_of; (case a => k_is); (case l => k_is); (case c => k_is); (case k => k_is))
    (case d_locked => refine' Cl.def_mk KX G ?a ?l ?c ?k Cl.bi_d_locked; (case a => k_is); (case l => k_is); (case c => k_is); (case k => k_is))
    (case d_inverse_of => refine' Cl.def_mk KX G ?a ?l ?c ?k Cl.bi_d_inverse_of; (case a => k_is); (case l => k_is); (case c => k_is); (case k => k_is))
    (case d_joint_of => refine' Cl.def_mk KX G ?a ?l ?c ?k Cl.bi_d_joint_of; (case a => k_is); (case l => k_is); (case c => k_is); (case k => k_is))
    (case d_need => refine' Cl.def_mk KX G ?a ?l ?c ?k Cl.bi_d_need; (case a => k_is); (case l => k_is); (case c => k_is); (case k => k_is))
    (case d_locked_row => refine' Cl.def_mk KX G ?a ?l ?c ?k Cl.bi_d_locked_row; (case a => k_is); (case l => k_is); (case c => k_is); (case k => k_is))
    (case d_shuffled => refine' Cl.def_mk KX G ?a ?l ?c ?k Cl.bi_d_shuffled; (case a => k_is); (case l => k_is); (case c => k_is); (case k => k_is))
    (case d_order_of => refine' Cl.def_mk KX G ?a ?l ?c ?k Cl.bi_d_order_of; (case a => k_is); (case l => k_is); (case c => k_is); (case k => k_is))
    (case d_errors_of => refine' Cl.def_mk KX G ?a ?l ?c ?k Cl.bi_d_errors_of; (case a => k_is); (case l => k_is); (case c => k_is); (case k => k_is))
    (case d_opened_place => refine' Cl.def_mk KX G ?a ?l ?c ?k Cl.bi_d_opened_place; (case a => k_is); (case l => k_is); (case c => k_is); (case k => k_is))
    (case d_factorial_of => refine' Cl.def_mk KX G ?a ?l ?c ?k Cl.bi_d_factorial_of; (case a => k_is); (case l => k_is); (case c => k_is); (case k => k_is))
    (case d_are_different => refine' Cl.def_mk KX G ?a ?l ?c ?k Cl.bi_d_are_different; (case a => k_is); (case l => k_is); (case c => k_is); (case k => k_is))
    (case d_parts_of => refine' Cl.def_mk KX G ?a ?l ?c ?k Cl.bi_d_parts_of; (case a => k_is); (case l => k_is); (case c => k_is); (case k => k_is))
    (case d_check_text => refine' Cl.def_mk KX G ?a ?l ?c ?k Cl.bi_d_check_text; (case a => k_is); (case l => k_is); (case c => k_is); (case k => k_is))
    (case d_check_card => refine' Cl.def_mk KX G ?a ?l ?c ?k Cl.bi_d_check_card; (case a => k_is); (case l => k_is); (case c => k_is); (case k => k_is))
    (case d_check_key => refine' Cl.def_mk KX G ?a ?l ?c ?k Cl.bi_d_check_key; (case a => k_is); (case l => k_is); (case c => k_is); (case k => k_is))
    (case d_check_keys => refine' Cl.def_mk KX G ?a ?l ?c ?k Cl.bi_d_check_keys; (case a => k_is); (case l => k_is); (case c => k_is); (case k => k_is))
    (case d_check_row => refine' Cl.def_mk KX G ?a ?l ?c ?k Cl.bi_d_check_row; (case a => k_is); (case l => k_is); (case c => k_is); (case k => k_is))
    (case d_check_cards => refine' Cl.def_mk KX G ?a ?l ?c ?k Cl.bi_d_check_cards; (case a => k_is); (case l => k_is); (case c => k_is); (case k => k_is))
    (case d_check_order => refine' Cl.def_mk KX G ?a ?l ?c ?k Cl.bi_d_check_order; (case a => k_is); (case l => k_is); (case c => k_is); (case k => k_is))
    (case d_check_position => refine' Cl.def_mk KX G ?a ?l ?c ?k Cl.bi_d_check_position; (case a => k_is); (case l => k_is); (case c => k_is); (case k => k_is))
    (case d_check_revealed => refine' Cl.def_mk KX G ?a ?l ?c ?k Cl.bi_d_check_revealed; (case a => k_is); (case l => k_is); (case c => k_is); (case k => k_is))
    (case d_check_shown => refine' Cl.def_mk KX G ?a ?l ?c ?k Cl.bi_d_check_shown; (case a => k_is); (case l => k_is); (case c => k_is); (case k => k_is))
    (case d_check_number => refine' Cl.def_mk KX G ?a ?l ?c ?k Cl.bi_d_check_number; (case a => k_is); (case l => k_is); (case c => k_is); (case k => k_is))
    (case d_check_exponent => refine' Cl.def_mk KX G ?a ?l ?c ?k Cl.bi_d_check_exponent; (case a => k_is); (case l => k_is); (case c => k_is); (case k => k_is))
    (case m_Token_number => refine' Cl.mth_mk ?a ?i ?l ?c ?k Cl.bi_m_Token_number; (case a => k_is); (case i => k_is); (case l => k_is); (case c => k_is); (case k => k_is))
    (case d_is_letter => refine' Cl.def_mk KX G ?a ?l ?c ?k Cl.bi_d_is_letter; (case a => k_is); (case l => k_is); (case c => k_is); (case k => k_is))
    (case d_is_digit => refine' Cl.def_mk KX G ?a ?l ?c ?k Cl.bi_d_is_digit; (case a => k_is); (case l => k_is); (case c => k_is); (case k => k_is))
    (case d_behind_letters => refine' Cl.def_mk KX G ?a ?l ?c ?k Cl.bi_d_behind_letters; (case a => k_is); (case l => k_is); (case c => k_is); (case k => k_is))
    (case d_behind_digits => refine' Cl.def_mk KX G ?a ?l ?c ?k Cl.bi_d_behind_digits; (case a => k_is); (case l => k_is); (case c => k_is); (case k => k_is))
    (case d_is_number => refine' Cl.def_mk KX G ?a ?l ?c ?k Cl.bi_d_is_number; (case a => k_is); (case l => k_is); (case c => k_is); (case k => k_is))
    (case d_token_at => refine' Cl.def_mk KX G ?a ?l ?c ?k Cl.bi_d_token_at; (case a => k_is); (case l => k_is); (case c => k_is); (case k => k_is))
    (case d_tokens_of => refine' Cl.def_mk KX G ?a ?l ?c ?k Cl.bi_d_tokens_of; (case a => k_is); (case l => k_is); (case c => k_is); (case k => k_is))
    (case m_Reader_next_kind => refine' Cl.mth_mk ?a ?i ?l ?c ?k Cl.bi_m_Reader_next_kind; (case a => k_is); (case i => k_is); (case l => k_is); (case c => k_is); (case k => k_is))
    (case m_Reader_take => refine' Cl.mth_mk ?a ?i ?l ?c ?k Cl.bi_m_Reader_take; (case a => k_is); (case i => k_is); (case l => k_is); (case c => k_is); (case k => k_is))
    (case m_Reader_take_word => refine' Cl.mth_mk ?a ?i ?l ?c ?k Cl.bi_m_Reader_take_word; (case a => k_is); (case i => k_is); (case l => k_is); (case c => k_is); (case k => k_is))
    (case d_signs_of => refine' Cl.def_mk KX G ?a ?l ?c ?k Cl.bi_d_signs_of; (case a => k_is); (case l => k_is); (case c => k_is); (case k => k_is))
    (case d_read_prime => refine' Cl.def_mk KX G ?a ?l ?c ?k Cl.bi_d_read_prime; (case a => k_is); (case l => k_is); (case c => k_is); (case k => k_is))
    (case d_read_card => refine' Cl.def_mk KX G ?a ?l ?c ?k Cl.bi_d_read_card; (case a => k_is); (case l => k_is); (case c => k_is); (case k => k_is))
    (case d_read_deck => refine' Cl.def_mk KX G ?a ?l ?c ?k Cl.bi_d_read_deck; (case a => k_is); (case l => k_is); (case c => k_is); (case k => k_is))
    (case d_read_name => refine' Cl.def_mk KX G ?a ?l ?c ?k Cl.bi_d_read_name; (case a => k_is); (case l => k_is); (case c => k_is); (case k => k_is))
    (case d_read_key => refine' Cl.def_mk KX G ?a ?l ?c ?k Cl.bi_d_read_key; (case a => k_is); (case l => k_is); (case c => k_is); (case k => k_is))
    (case d_read_player => refine' Cl.def_mk KX G ?a ?l ?c ?k Cl.bi_d_read_player; (case a => k_is); (case l => k_is); (case c => k_is); (case k => k_is))
    (case d_read_table => refine' Cl.def_mk KX G ?a ?l ?c ?k Cl.bi_d_read_table; (case a => k_is); (case l => k_is); (case c => k_is); (case k => k_is))
    (case d_line_of => refine' Cl.def_mk KX G ?a ?l ?c ?k Cl.bi_d_line_of; (case a => k_is); (case l => k_is); (case c => k_is); (case k => k_is))
    (case d_text_of => refine' Cl.def_mk KX G ?a ?l ?c ?k Cl.bi_d_text_of; (case a => k_is); (case l => k_is); (case c => k_is); (case k => k_is))
    (case d_keys_of => refine' Cl.def_mk KX G ?a ?l ?c ?k Cl.bi_d_keys_of; (case a => k_is); (case l => k_is); (case c => k_is); (case k => k_is))
    (case d_check_orders => refine' Cl.def_mk KX G ?a ?l ?c ?k Cl.bi_d_check_orders; (case a => k_is); (case l => k_is); (case c => k_is); (case k => k_is))
    (case m_Desk_load => refine' Cl.mth_mk ?a ?i ?l ?c ?k Cl.bi_m_Desk_load; (case a => k_is); (case i => k_is); (case l => k_is); (case c => k_is); (case k => k_is))
    (case m_Desk_clear_all => refine' Cl.mth_mk ?a ?i ?l ?c ?k Cl.bi_m_Desk_clear_all; (case a => k_is); (case i => k_is); (case l => k_is); (case c => k_is); (case k => k_is))
    (case d_read_call => refine' Cl.def_mk KX G ?a ?l ?c ?k Cl.bi_d_read_call; (case a => k_is); (case l => k_is); (case c => k_is); (case k => k_is))
    (case d_read_calls => refine' Cl.def_mk KX G ?a ?l ?c ?k Cl.bi_d_read_calls; (case a => k_is); (case l => k_is); (case c => k_is); (case k => k_is))
    (case d_fields_of => refine' Cl.def_mk KX G ?a ?l ?c ?k Cl.bi_d_fields_of; (case a => k_is); (case l => k_is); (case c => k_is); (case k => k_is))
    (case d_answer_of => refine' Cl.def_mk KX G ?a ?l ?c ?k Cl.bi_d_answer_of; (case a => k_is); (case l => k_is); (case c => k_is); (case k => k_is))
    (case d_answers => refine' Cl.def_mk KX G ?a ?l ?c ?k Cl.bi_d_answers; (case a => k_is); (case l => k_is); (case c => k_is); (case k => k_is))
    (case n_Token_kind => show PySem.W.findIn _ _ _ = some none; k_is)
    (case n_Token_offset => show PySem.W.findIn _ _ _ = some none; k_is)
    (case n_Token_signs => show PySem.W.findIn _ _ _ = some none; k_is)
    (case n_Reader_tokens => show PySem.W.findIn _ _ _ = some none; k_is)
    (case n_Reader_read => show PySem.W.findIn _ _ _ = some none; k_is)
    (case n_Player_name => show PySem.W.findIn _ _ _ = some none; k_is)
    (case n_Player_key => show PySem.W.findIn _ _ _ = some none; k_is)
    (case n_Table_prime => show PySem.W.findIn _ _ _ = some none; k_is)
    (case n_Table_deck => show PySem.W.findIn _ _ _ = some none; k_is)
    (case n_Table_players => show PySem.W.findIn _ _ _ = some none; k_is)
    (case n_Call_operation => show PySem.W.findIn _ _ _ = some none; k_is)
    (case n_Call_numbers => show PySem.W.findIn _ _ _ = some none; k_is)
    (case n_Call_rows => show PySem.W.findIn _ _ _ = some none; k_is)
    (case n_Desk_table => show PySem.W.findIn _ _ _ = some none; k_is)
    (case n_Refused_code => show PySem.W.findIn _ _ _ = some none; k_is)
    (case n_Spoilt_code => show PySem.W.findIn _ _ _ = some none; k_is)
    (case n_Spoilt_offset => show PySem.W.findIn _ _ _ = some none; k_is)
    (case b_all => refine' PySem.W.mg_none_of KX G ?a; (case a => k_is))
    (case b_enumerate => refine' PySem.W.mg_none_of KX G ?a; (case a => k_is))
    (case b_int => refine' PySem.W.mg_none_of KX G ?a; (case a => k_is))
    (case b_len => refine' PySem.W.mg_none_of KX G ?a; (case a => k_is))
    (case b_list => refine' PySem.W.mg_none_of KX G ?a; (case a => k_is))
    (case b_ord => refine' PySem.W.mg_none_of KX G ?a; (case a => k_is))
    (case b_range => refine' PySem.W.mg_none_of KX G ?a; (case a => k_is))
    (case b_sorted => refine' PySem.W.mg_none_of KX G ?a; (case a => k_is))
    (case b_str => refine' PySem.W.mg_none_of KX G ?a; (case a => k_is))
    (case b_zip => refine' PySem.W.mg_none_of KX G ?a; (case a => k_is))
    (case k_LEAST_PRIME => refine' Cl.kint_mk KX G ?a; (case a => k_is))
    (case k_GREATEST_PRIME => refine' Cl.kint_mk KX G ?a; (case a => k_is))
    (case k_BAD_ARGUMENT => refine' Cl.kint_mk KX G ?a; (case a => k_is))
    (case k_NOT_IN_DECK => refine' Cl.kint_mk KX G ?a; (case a => k_is))
    (case k_NO_TABLE => refine' Cl.kint_mk KX G ?a; (case a => k_is))
    (case k_FEWEST => refine' Cl.kint_mk KX G ?a; (case a => k_is))
    (case k_MOST => refine' Cl.kint_mk KX G ?a; (case a => k_is))
    (case k_MOST_BYTES => refine' Cl.kint_mk KX G ?a; (case a => k_is))
    (case k_MOST_KEYS => refine' Cl.kint_mk KX G ?a; (case a => k_is))
    (case k_SEMICOLON => refine' Cl.kint_mk KX G ?a; (case a => k_is))
    (case k_ZERO => refine' Cl.kint_mk KX G ?a; (case a => k_is))
    (case k_LONGEST_WORD => refine' Cl.kint_mk KX G ?a; (case a => k_is))
    (case k_LONGEST_NUMBER => refine' Cl.kint_mk KX G ?a; (case a => k_is))
    (case k_WORD => refine' Cl.kint_mk KX G ?a; (case a => k_is))
    (case k_NUMBER => refine' Cl.kint_mk KX G ?a; (case a => k_is))
    (case k_MARK => refine' Cl.kint_mk KX G ?a; (case a => k_is))
    (case k_WRONG => refine' Cl.kint_mk KX G ?a; (case a => k_is))
    (case k_END => refine' Cl.kint_mk KX G ?a; (case a => k_is))
    (case k_NOT_ALLOWED => refine' Cl.kint_mk KX G ?a; (case a => k_is))
    (case k_MOST_CARDS => refine' Cl.kint_mk KX G ?a; (case a => k_is))
    (case k_MOST_PLAYERS => refine' Cl.kint_mk KX G ?a; (case a => k_is))
    (case k_TWICE => refine' Cl.kint_mk KX G ?a; (case a => k_is))
    (case k_NOT_SUCH => refine' Cl.kint_mk KX G ?a; (case a => k_is))
    (case k_PRIME => refine' Cl.kstr_mk KX G ?a; (case a => k_is))
    (case k_DECK => refine' Cl.kstr_mk KX G ?a; (case a => k_is))
    (case k_PLAYER => refine' Cl.kstr_mk KX G ?a; (case a => k_is))
    (case k_KEY => refine' Cl.kstr_mk KX G ?a; (case a => k_is))
    (case k_LOAD => refine' Cl.kint_mk KX G ?a; (case a => k_is))
    (case k_CHECK => refine' Cl.kint_mk KX G ?a; (case a => k_is))
    (case k_CLEAR => refine' Cl.kint_mk KX G ?a; (case a => k_is))
    (case k_FIRST_DEED => refine' Cl.kint_mk KX G ?a; (case a => k_is))
    (case x_ref_spo => refine' Cl.exm_of ?eC ?iC ?tC ?sC; (case eC => k_is); (case iC => k_is); (case tC => k_is); (case sC => k_is))
    (case zA => k_is); (case zL => k_is); (case zC => k_is); (case zK => k_is)
  case S =>
    intro K H xs a hO hwi hask hx
    cases hx with
    | cons h1 h2 =>
      cases h2
      cases h1 with
      | lst hs ha =>
        have e := L2.ints_dw a.1 _ ha
        subst e
        have q : ((Codec.inLen 0 16000 a.1 && a.1.all (Codec.inInt (Int.negSucc 9223372036854775807) (Int.ofNat 9223372036854775807))) && true) = true := hwi
        rw [Bool.and_eq_true, Bool.and_eq_true] at q
        exact ⟨_, a.1, rfl, hs, (Codec.inNat_iff.mp q.1.1).2, hask, fun H' p hp => .lst (L2.SqL.of hp) (L2.dw_ints _)⟩
