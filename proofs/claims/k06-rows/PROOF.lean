import PyProof.Rows.All
import Wide.All
import OpenK.AllK
import Wide.FinOn
import HandS.ForMost
import HandS.ForExc
import HandS.Slots
import HandS.SlotsOwn
import HandS.Star
import HandS.Wide
import HandS.Gcd
import HandS.IsInst
import HandS.FStr
import HandS.Flow
import HandS.ClsMeth
import HandS.TupAny
import HandS.Zip
import HandS.ExcSuper
import HandS.Head3
import HandS.HeadEnd
import HandS.HeadHook2
import HandS.OwnEq
import HandS.Style
import PySem.Challenge.RW_worthstead_k06_rows_turned_and_multiplie
section
set_option Elab.async false
set_option linter.all false
set_option maxRecDepth 100000
set_option maxHeartbeats 4000000
/-! Wo, part A: promises by position, a def of the text as a callee, the head's facts. -/
namespace Wo
open PySem PySem.Spec PyProof.Rows L2

/-! ### promises by the number of values -/
def sp0 (b : Hp → VK → XK → Prop) : Sp := fun vs H Q E => vs = [] ∧ b H Q E
def sp1 (b : V → Hp → VK → XK → Prop) : Sp := fun vs H Q E => ∃ x, vs = [x] ∧ b x H Q E
def sp2 (b : V → V → Hp → VK → XK → Prop) : Sp := fun vs H Q E => ∃ x y, vs = [x, y] ∧ b x y H Q E
def sp3 (b : V → V → V → Hp → VK → XK → Prop) : Sp := fun vs H Q E => ∃ x y z, vs = [x, y, z] ∧ b x y z H Q E
def sp4 (b : V → V → V → V → Hp → VK → XK → Prop) : Sp := fun vs H Q E => ∃ x y z u, vs = [x, y, z, u] ∧ b x y z u H Q E
def sp5 (b : V → V → V → V → V → Hp → VK → XK → Prop) : Sp := fun vs H Q E => ∃ x y z u v, vs = [x, y, z, u, v] ∧ b x y z u v H Q E

/-! ### no exception is wished for -/
abbrev CXW (P : Program) (w : World) : CXT := L2.CX P w
theorem passF {X : Cx} : Passes (CXW X.prog X.w) X E0 := fun _ _ _ _ _ _ _ h => by
  obtain ⟨a, B, H', cls, d, _, _, _, _, _, _, _, h⟩ := h
  exact h.elim
theorem passF' {X : Cx} : ∀ (H : Hp) (s : Shared) (e : Value) (s' : Shared), CXW X.prog X.w X.stack H s E0 e s' → False := fun _ _ _ _ h => by
  obtain ⟨a, B, H', cls, d, _, _, _, _, _, _, _, h⟩ := h
  exact h.elim

/-! ### a def that is called by its name -/
/-- the module's name x holds a def that keeps the promise sp, by at most level k -/
def Cal (P : Program) (w : World) (K : PySem.W.Frag) (mg : Str → Option Value) (base : Heap) (k : Nat) (x : Str) (sp : Sp) : Prop :=
  ∃ f, mg x = some (.ref f) ∧ PySem.W.keepIn K (.ref f) = true ∧ FnR P w K mg base (CXW P w) k f sp
def tCallR (sp : Sp) (E : XK) (t : TA) : TE := fun σ H Q => t σ H fun vs H1 => sp vs H1 Q E
section
variable {X : Cx} {k j : Nat} {f : Addr} {sp : Sp} {E : XK} {x : Str} {p pos : Pos} {e : Expr} {es : List Expr} {t : TA}
theorem run_R {CX : CXT} {pins : List (Addr × Obj)} {σ : L2.St} {H : Hp} {s : Shared} {Q : VK} {us : List Value} {vs : List V} (F : FnR X.prog X.w X.K X.mg X.base CX k f sp) (hr : Room k X.A) (hx : Passes CX X E)
    (I : Inv X pins σ H s) (r : Vals vs us) (h : sp vs H Q E) : wpAny (model X.prog X.w) X.A (call (.ref f) us) (EP X pins σ Q) X.xe s :=
  wpAny_call (run_fnR F hr hx I r h)
theorem pe_callR (F : FnR X.prog X.w X.K X.mg X.base (CXW X.prog X.w) k f sp) (hr : Room k X.A) (hg : Gl X x) (hm : X.mg x = some (.ref f)) (hk : PySem.W.keepIn X.K (.ref f) = true) (hx : Passes (CXW X.prog X.w) X E)
    (ha : PA X (e :: es) t) (hdb : (x == ("__debug__" : Str)) = false) (he : starEach (e :: es) X.env = (false, eval e X.env) :: starEach es X.env) (hpl : (backTo pos (starEach es X.env)).any (·.1) = false) :
    PE X (.Call (.Name x p) (e :: es) [] pos) (tCallR sp E t) := by
  refine ⟨fun pins s σ H Q I h => ?_⟩
  refine wpAny_Call_Name_kw (ld_glob I hg hm ?_ hdb)
  refine PySem.W.callWith_K (h₀ := X.base) I.ok.mod.kin hk (thn (ha.run pos pins s σ H _ I h) fun us s1 ⟨vs, H1, I1, r, q⟩ => ⟨I1.kIn, ?_⟩) he hpl
  exact run_R F hr hx I1 r q
theorem pe_callR0 (F : FnR X.prog X.w X.K X.mg X.base (CXW X.prog X.w) k f sp) (hr : Room k X.A) (hg : Gl X x) (hm : X.mg x = some (.ref f)) (hk : PySem.W.keepIn X.K (.ref f) = true) (hx : Passes (CXW X.prog X.w) X E)
    (hdb : (x == ("__debug__" : Str)) = false) : PE X (.Call (.Name x p) [] [] pos) (tCallR sp E tNil) := by
  refine ⟨fun pins s σ H Q I h => ?_⟩
  refine wpAny_Call_Name_kw (ld_glob I hg hm ?_ hdb)
  exact PySem.W.callWith_K0 I.kIn hk (run_R (us := []) F hr hx I .nil h)
/-- f(e, ..), nothing is raised -/
theorem pc (c : Cal X.prog X.w X.K X.mg X.base k x sp) (hr : Room j X.A) (ha : PA X (e :: es) t) (hk : k ≤ j := by decide) (hg : Gl X x := by rfl) (hdb : (x == ("__debug__" : Str)) = false := by decide)
    (he : starEach (e :: es) X.env = (false, eval e X.env) :: starEach es X.env := by rfl) (hpl : (backTo pos (starEach es X.env)).any (·.1) = false := by rfl) : PE X (.Call (.Name x p) (e :: es) [] pos) (tCallR sp E0 t) := by
  obtain ⟨f, hm, kp, F⟩ := c
  exact pe_callR F (hr.mono hk) hg hm kp passF ha hdb he hpl
theorem pc0 (c : Cal X.prog X.w X.K X.mg X.base k x sp) (hr : Room j X.A) (hk : k ≤ j := by decide) (hg : Gl X x := by rfl) (hdb : (x == ("__debug__" : Str)) = false := by decide) : PE X (.Call (.Name x p) [] [] pos) (tCallR sp E0 tNil) := by
  obtain ⟨f, hm, kp, F⟩ := c
  exact pe_callR0 F (hr.mono hk) hg hm kp passF hdb
end
section
variable {P : Program} {w : World} {K : PySem.W.Frag} {mg : Str → Option Value} {base : Heap} {k : Nat} {x name qual : Str} {params : Arguments} {body : List Stmt} {scope : Scope} {f : Addr} {N ps : List Str} {sp : Sp}
/-- a def of the text as a promise by position -/
theorem fnR_of (F : ∃ fd, FunD K name qual params body scope [] [] f fd) (S : FnScope N ps scope)
    (hbind : ∀ (kV doc pm : Value) (an : Option Addr) (cdv ct : Value) (us : List Value), us.length = ps.length → bindArgs (PySem.W.fnOf name qual params body scope .none kV doc pm an cdv ct) ⟨us, []⟩ = pure (ps.zip us))
    (len : ∀ vs H Q E, sp vs H Q E → vs.length = ps.length)
    (hbody : ∀ (cdv : Value) (A : Around) (outer : List Env) (s : Shared) (H : Hp) (vs : List V) (Q : VK) (E : XK), Room k (A.deeper (envOfC qual scope s.heap.objs.size f cdv)) → sp vs H Q E →
      ∃ t, PSs (cxOf (CXW P w) P w K mg base N qual scope f cdv A outer s H E) body t ∧ t { nx := fun _ H' => Q .non H', rt := Q } (start N vs) H) : FnR P w K mg base (CXW P w) (k + 1) f sp := by
  obtain ⟨fd, F⟩ := F
  have G := FunD.ok (P := P) (w := w) (mg := mg) (base := base) (CX := CXW P w) F S len hbody
  have b := F.bindsN hbind
  refine (G.raw b .nil).imp fun vs H Q E h => ?_
  rw [List.append_nil]
  exact h
theorem cal_of (g : mg x = some (.ref f)) (F : ∃ fd, FunD K name qual params body scope [] [] f fd) (S : FnScope N ps scope)
    (hbind : ∀ (kV doc pm : Value) (an : Option Addr) (cdv ct : Value) (us : List Value), us.length = ps.length → bindArgs (PySem.W.fnOf name qual params body scope .none kV doc pm an cdv ct) ⟨us, []⟩ = pure (ps.zip us))
    (len : ∀ vs H Q E, sp vs H Q E → vs.length = ps.length)
    (hbody : ∀ (cdv : Value) (A : Around) (outer : List Env) (s : Shared) (H : Hp) (vs : List V) (Q : VK) (E : XK), Room k (A.deeper (envOfC qual scope s.heap.objs.size f cdv)) → sp vs H Q E →
      ∃ t, PSs (cxOf (CXW P w) P w K mg base N qual scope f cdv A outer s H E) body t ∧ t { nx := fun _ H' => Q .non H', rt := Q } (start N vs) H) : Cal P w K mg base (k + 1) x sp := by
  have kp : PySem.W.keepIn K (.ref f) = true := by
    obtain ⟨fd, F⟩ := F
    exact F.kp
  exact ⟨f, g, kp, fnR_of F S hbind len hbody⟩
end

/-! ### what the top leaves: addresses by paths, defs, facts -/
abbrev Pa := PySem.W.Frag → Addr
def gA (x : Str) : Pa := fun K => He.ga K x
def mA (x m : Str) : Pa := fun K => He.ma K (He.ga K x) m
/-- the def of a property, of a classmethod -/
def rA (T : String) (x m : Str) : Pa := fun K => match PySem.W.recIn K (mA x m K) T with
  | some (.ref g :: _) => g
  | _ => 0
structure DefX where
  ad : Pa
  name : Str
  qual : Str
  params : Arguments
  body : List Stmt
  scope : Scope
  dfl : List He.Dv := []
def fnX (K : PySem.W.Frag) (a : Addr) : He.FnW := match K.lookup a with
  | some ⟨_, _, .func fd, _⟩ => some (fd.name, fd.qualname, fd.params, fd.body, fd.scope, fd.globals, fd.closure, fd.builtins)
  | _ => none
def DefX.val (d : DefX) : He.FnW := some (d.name, d.qual, d.params, .stmts d.body, d.scope, mainGlobals, [], builtinsNs)
def DefX.dvs (K : PySem.W.Frag) (d : DefX) : List V := d.dfl.map (He.Dv.v K)
def DefX.ok (K : PySem.W.Frag) (d : DefX) : Bool := PySem.W.keepIn K (.ref (d.ad K)) && (match K.lookup (d.ad K) with
  | some ⟨_, _, .func fd, _⟩ => PySem.W.codeIn K fd.code d.qual && He.dflB K fd.defaults (d.dvs K)
  | _ => false)
theorem DefX.funD {K : PySem.W.Frag} {d : DefX} (e : fnX K (d.ad K) = d.val) (c : d.ok K = true) : ∃ fd, FunD K d.name d.qual d.params d.body d.scope (d.dvs K) [] (d.ad K) fd := by
  obtain ⟨kp, c2⟩ := He.ba c
  unfold fnX at e
  cases q : K.lookup (d.ad K) with
  | none =>
    rw [q] at c2
    cases c2
  | some o =>
    obtain ⟨oc, od, dt, osl⟩ := o
    rw [q] at c2 e
    cases dt with
    | func fd =>
      obtain ⟨n1, n2, n3, n4, n5, n6, n7, n8, n9, n10, n11, n12, n13, n14, n15⟩ := fd
      have e2 : (some (n1, n2, n3, n4, n5, n6, n7, n15) : He.FnW) = some (d.name, d.qual, d.params, .stmts d.body, d.scope, mainGlobals, [], builtinsNs) := e
      simp only [Option.some.injEq, Prod.mk.injEq] at e2
      obtain ⟨h1, h2, h3, h4, h5, h6, h7, h8⟩ := e2
      subst h1 h2 h3 h4 h5 h6 h7 h8
      have c3 : (PySem.W.codeIn K n13 d.qual && He.dflB K n8 (d.dvs K)) = true := c2
      obtain ⟨k1, k2⟩ := He.ba c3
      exact ⟨_, ⟨oc, od, n8, n9, n10, n11, n12, n13, n14, osl, rfl, q, k1, He.dflB_ok k2, .inl rfl⟩, kp⟩
    | _ => cases c2
abbrev AlX : Type := Bool × List He.FnW
def obsX (fs : List (PySem.W.Frag → Bool)) (ds : List DefX) (K : PySem.W.Frag) : AlX := ((fs.all fun f => f K) && ds.all fun d => d.ok K, ds.map fun d => fnX K (d.ad K))
def valX (ds : List DefX) : AlX := (true, ds.map DefX.val)
def SaysX (fs : List (PySem.W.Frag → Bool)) (ds : List DefX) (K : PySem.W.Frag) : Prop := obsX fs ds K = valX ds
def obsXG (n : Nat) (fs : List (PySem.W.Frag → Bool)) (ds : List DefX) (g : Addr → Option Obj) : AlX := obsX fs ds (He.frG g (He.asD g n))
def hookX (n : Nat) (fs : List (PySem.W.Frag → Bool)) (ds : List DefX) : PySem.W.Hook where
  α := AlX
  obs := fun s => obsXG n fs ds s.heap.get?
  val := fun _ => valX ds
  says := fun _ h => ∃ K : PySem.W.Frag, K.In h ∧ SaysX fs ds K
  of := fun _ _ e => ⟨_, He.frG_in, e⟩
  keeps := fun _ _ _ ⟨K, hK, c⟩ k => ⟨K, PySem.W.Frag.In.keeps hK k, c⟩
theorem obsXG_eq {n : Nat} {fs : List (PySem.W.Frag → Bool)} {ds : List DefX} {g : Addr → Option Obj} {s : Shared} (h : ∀ a, g a = s.heap.get? a) : obsXG n fs ds g = (hookX n fs ds).obs s := by
  have e : g = s.heap.get? := funext h
  rw [e] <;> rfl
section
variable {fs : List (PySem.W.Frag → Bool)} {ds : List DefX} {K : PySem.W.Frag}
theorem SaysX.fact (c : SaysX fs ds K) (i : Nat) {f : PySem.W.Frag → Bool} (h : fs[i]? = some f := by rfl) : f K = true := by
  have c1 := (He.ba (show ((fs.all fun f => f K) && ds.all fun d => d.ok K) = true from congrArg (fun z : AlX => z.1) c)).1
  exact List.all_eq_true.mp c1 f (List.mem_of_getElem? h)
theorem SaysX.def_ (c : SaysX fs ds K) (i : Nat) {d : DefX} (h : ds[i]? = some d := by rfl) : ∃ fd, FunD K d.name d.qual d.params d.body d.scope (d.dvs K) [] (d.ad K) fd := by
  have c2 := (He.ba (show ((fs.all fun f => f K) && ds.all fun d => d.ok K) = true from congrArg (fun z : AlX => z.1) c)).2
  have e : ds.map (fun d => fnX K (d.ad K)) = ds.map DefX.val := congrArg (fun z : AlX => z.2) c
  have e2 : (ds.map fun d => fnX K (d.ad K))[i]? = (ds.map DefX.val)[i]? := by rw [e]
  rw [List.getElem?_map, List.getElem?_map, h] at e2
  exact DefX.funD (Option.some.inj e2) (List.all_eq_true.mp c2 d (List.mem_of_getElem? h))
end
/-! facts: each a Bool of the frag, with what it says -/
section
open PySem.W
def fGlo (x : Str) (K : Frag) : Bool := He.eqO (nsIn K mainGlobals x) (some (some (.ref (He.ga K x))))
def fFree (x : Str) (K : Frag) : Bool := He.eqO (nsIn K mainGlobals x) (some none)
def fBlt (x : Str) (b : String) (K : Frag) : Bool := He.eqO (nsIn K mainGlobals x) (some (some (.builtin b)))
def fInt (x : Str) (i : Int) (K : Frag) : Bool := match nsIn K mainGlobals x with
  | some (some (.int j _)) => decide (j = i)
  | _ => false
def fStr (x z : Str) (K : Frag) : Bool := match nsIn K mainGlobals x with
  | some (some (.str y _)) => decide (y = z)
  | _ => false
variable {K : Frag} {h : Heap} {mg : Str → Option Value}
theorem fGlo_ok (X : K.In h) (G : h.Ns mainGlobals mg) {x : Str} (c : fGlo x K = true) : mg x = some (.ref (gA x K)) := mg_of X G (He.eqO_ok c)
theorem fFree_ok (X : K.In h) (G : h.Ns mainGlobals mg) {x : Str} (c : fFree x K = true) : mg x = none := mg_none_of X G (He.eqO_ok c)
theorem fBlt_ok (X : K.In h) (G : h.Ns mainGlobals mg) {x : Str} {b : String} (c : fBlt x b K = true) : mg x = some (.builtin b) := mg_of X G (He.eqO_ok c)
theorem fInt_ok (X : K.In h) (G : h.Ns mainGlobals mg) {x : Str} {i : Int} (c : fInt x i K = true) : ∃ t, mg x = some (.int i t) := He.int_ok X G (x := x) (i := i) c
/-- a class with two slots -/
structure Sl2 (K : Frag) (C : Addr) (f0 f1 : Str) (fi : Addr) : Prop where
  cl : SlX.SCls K C
  s0 : ∃ p, SlX.Slot1 K C f0 p 0
  s1 : ∃ p, SlX.Slot1 K C f1 p 1
  si : SlX.SIsi K C
  make : Mk K C fi
  cs : isClsIn K C = true
  ty : typeIn K (.ref C) = some (.type "type")
def bSlot (K : Frag) (C : Addr) (f : Str) (i : Nat) : Bool := match findIn K (.ref C) f with
  | some (some (.ref p)) => decide (specialIn K (.ref p) "__get__" = some (some (.builtin "member_descriptor.__get__"))) && (decide (takesIn K (.ref p) = some true) && (decide (typeIn K (.ref p) = some (.type "member_descriptor")) && (decide (slotIn K p C = some i) && decide (i < 1000))))
  | _ => false
theorem bSlot_ok {C : Addr} {f : Str} {i : Nat} (c : bSlot K C f i = true) : ∃ p, SlX.Slot1 K C f p i := by
  unfold bSlot at c
  split at c
  · rename_i p e
    obtain ⟨c1, c⟩ := He.ba c
    obtain ⟨c2, c⟩ := He.ba c
    obtain ⟨c3, c⟩ := He.ba c
    obtain ⟨c4, c5⟩ := He.ba c
    exact ⟨p, e, of_decide_eq_true c1, of_decide_eq_true c2, of_decide_eq_true c3, of_decide_eq_true c4, of_decide_eq_true c5⟩
  · cases c
def bMk (K : Frag) (C fi : Addr) : Bool := makesIn K C && (He.eqO (findIn K (.ref C) "__init__") (some (some (.ref fi))) && (isFn K (.ref fi) && keepIn K (.ref C)))
theorem bMk_ok {C fi : Addr} (c : bMk K C fi = true) : Mk K C fi := by
  obtain ⟨c1, c⟩ := He.ba c
  obtain ⟨c2, c⟩ := He.ba c
  obtain ⟨c3, c4⟩ := He.ba c
  exact ⟨c1, He.eqO_ok c2, c3, c4⟩
def fSl2 (x f0 f1 : Str) (K : Frag) : Bool :=
  plainGet K (gA x K) Str.empty && (isClsIn K (gA x K) && (plainOver K (gA x K) && (He.eqO (findIn K (.ref (gA x K)) "__setattr__") (some (some (.builtin "object.__setattr__"))) &&
  (bSlot K (gA x K) f0 0 && (bSlot K (gA x K) f1 1 && (bMk K (gA x K) (mA x "__init__" K) &&
  (He.eqO (findIn K (.ref (gA x K)) "__class__") (some (some (.builtin "object.__class__"))) && (He.eqO (specialIn K (.builtin "object.__class__") "__get__") (some (some (.builtin "getset_descriptor.__get__"))) &&
  (decide (takesIn K (.builtin "object.__class__") = some true) && (decide (mroIn K (gA x K) (.type "object") = some true) && decide (typeIn K (.ref (gA x K)) = some (.type "type"))))))))))))
theorem fSl2_ok {x f0 f1 : Str} (c : fSl2 x f0 f1 K = true) : Sl2 K (gA x K) f0 f1 (mA x "__init__" K) := by
  obtain ⟨c1, c⟩ := He.ba c
  obtain ⟨c2, c⟩ := He.ba c
  obtain ⟨c3, c⟩ := He.ba c
  obtain ⟨c4, c⟩ := He.ba c
  obtain ⟨c5, c⟩ := He.ba c
  obtain ⟨c6, c⟩ := He.ba c
  obtain ⟨c7, c⟩ := He.ba c
  obtain ⟨c8, c⟩ := He.ba c
  obtain ⟨c9, c⟩ := He.ba c
  obtain ⟨c10, c⟩ := He.ba c
  obtain ⟨c11, c12⟩ := He.ba c
  exact ⟨⟨c1, c2, c3, He.eqO_ok c4⟩, bSlot_ok c5, bSlot_ok c6, ⟨He.eqO_ok c8, He.eqO_ok c9, of_decide_eq_true c10, of_decide_eq_true c11⟩, bMk_ok c7, c2, of_decide_eq_true c12⟩
/-- isinstance(a value of the type t, the class named x) -/
def fKit (t : Frag → Value) (x : Str) (b : Bool) (K : Frag) : Bool := decide (kitOne K (t K) (.ref (gA x K)) = some b)
theorem fKit_ok {t : Frag → Value} {x : Str} {b : Bool} (c : fKit t x b K = true) : kitOne K (t K) (.ref (gA x K)) = some b := of_decide_eq_true c
/-- the class x has the def m of the text -/
def fOwn (x m : Str) (K : Frag) : Bool := He.eqO (findIn K (.ref (gA x K)) m) (some (some (.ref (mA x m K)))) && (isFn K (.ref (mA x m K)) && (keepIn K (.ref (mA x m K)) && selfFirst K (gA x K)))
structure OwnM (K : Frag) (C : Addr) (m : Str) (f : Addr) : Prop where
  at_ : findIn K (.ref C) m = some (some (.ref f))
  fn : isFn K (.ref f) = true
  kp : keepIn K (.ref f) = true
  sf : selfFirst K C = true
theorem fOwn_ok {x m : Str} (c : fOwn x m K = true) : OwnM K (gA x K) m (mA x m K) := by
  obtain ⟨c1, c⟩ := He.ba c
  obtain ⟨c2, c⟩ := He.ba c
  obtain ⟨c3, c4⟩ := He.ba c
  exact ⟨He.eqO_ok c1, c2, c3, c4⟩
/-- a name of the class x that is not there -/
def fLack (x m : Str) (K : Frag) : Bool := He.eqO (findIn K (.ref (gA x K)) m) (some none)
theorem fLack_ok {x m : Str} (c : fLack x m K = true) : findIn K (.ref (gA x K)) m = some none := He.eqO_ok c
/-- a property of the class x -/
structure PropM (K : Frag) (C : Addr) (m : Str) (g : Addr) : Prop where
  ex : ∃ p, findIn K (.ref C) m = some (some (.ref p)) ∧ specialIn K (.ref p) "__get__" = some (some (.builtin "property.__get__")) ∧ takesIn K (.ref p) = some true ∧ ∃ rest, recIn K p "property" = some (.ref g :: rest)
def fProp (x m : Str) (K : Frag) : Bool := He.eqO (findIn K (.ref (gA x K)) m) (some (some (.ref (mA x m K)))) && (He.eqO (specialIn K (.ref (mA x m K)) "__get__") (some (some (.builtin "property.__get__"))) && (decide (takesIn K (.ref (mA x m K)) = some true) &&
  (match recIn K (mA x m K) "property" with
    | some (.ref g :: _) => decide (g = rA "property" x m K)
    | _ => false)))
theorem fProp_ok {x m : Str} (c : fProp x m K = true) : PropM K (gA x K) m (rA "property" x m K) := by
  obtain ⟨c1, c⟩ := He.ba c
  obtain ⟨c2, c⟩ := He.ba c
  obtain ⟨c3, c4⟩ := He.ba c
  refine ⟨_, He.eqO_ok c1, He.eqO_ok c2, of_decide_eq_true c3, ?_⟩
  split at c4
  · rename_i g rest e
    have eg : g = rA "property" x m K := of_decide_eq_true c4
    exact ⟨rest, by rw [e, eg]⟩
  · cases c4
end
end Wo
end
section
set_option Elab.async false
set_option linter.all false
set_option maxRecDepth 100000
set_option maxHeartbeats 4000000
/-! Wo, part B: what a value stands for; growing heaps; a list in the making hidden. -/
namespace Wo
open PySem PySem.Spec PyProof.Rows L2

/-! ### relations between values and data, that stay when the heap grows -/
abbrev Rl (α : Type) := Hp → V → α → Prop
class Up {α : Type} (R : Rl α) : Prop where
  up : ∀ {H H' : Hp} {v : V} {a : α}, Same H H' → R H v a → R H' v a
def RI : Rl Int := fun _ v i => v = .int i
def RB : Rl Bool := fun _ v b => v = .bl b
def RS : Rl Str := fun _ v z => v = .str z
/-- any value, kept as it is -/
def RV : Rl V := fun _ v u => v = u
instance : Up RI := ⟨fun _ h => h⟩
instance : Up RB := ⟨fun _ h => h⟩
instance : Up RS := ⟨fun _ h => h⟩
instance : Up RV := ⟨fun _ h => h⟩
theorem Same.seqT {K : PySem.W.Frag} {H H' : Hp} {a : Addr} {xs : List V} (e : Same H H') (h : SqT K H a xs) : SqT K H' a xs := by
  rcases h with (h | ⟨o, h⟩) | h
  · exact .inl (.inl (e _ _ h))
  · exact .inl (.inr ⟨o, e _ _ h⟩)
  · exact .inr h
/-- all of them -/
def RAll {α : Type} (R : Rl α) (H : Hp) (vs : List V) (as : List α) : Prop := Paired (R H) vs as
theorem RAll.up {α : Type} {R : Rl α} [Up R] {H H' : Hp} {vs : List V} {as : List α} (e : Same H H') (h : RAll R H vs as) : RAll R H' vs as := Paired.mono (fun _ _ q => Up.up e q) h
theorem RAll.get {α : Type} {R : Rl α} {H : Hp} : ∀ {vs : List V} {as : List α} {i : Nat} {v : V}, RAll R H vs as → vs[i]? = some v → ∃ a, as[i]? = some a ∧ R H v a
  | _, _, _, _, .nil, e => by simp at e
  | _, _, 0, _, .cons h _, e => by simp at e; subst e; exact ⟨_, rfl, h⟩
  | _, _, i + 1, _, .cons _ t, e => by
    obtain ⟨a, h1, h2⟩ := RAll.get (i := i) t (by simpa using e)
    exact ⟨a, by simpa using h1, h2⟩
theorem RAll.getR {α : Type} {R : Rl α} {H : Hp} : ∀ {vs : List V} {as : List α} {i : Nat} {a : α}, RAll R H vs as → as[i]? = some a → ∃ v, vs[i]? = some v ∧ R H v a
  | _, _, _, _, .nil, e => by simp at e
  | _, _, 0, _, .cons h _, e => by simp at e; subst e; exact ⟨_, rfl, h⟩
  | _, _, i + 1, _, .cons _ t, e => by
    obtain ⟨a, h1, h2⟩ := RAll.getR (i := i) t (by simpa using e)
    exact ⟨a, by simpa using h1, h2⟩
theorem RAll.len {α : Type} {R : Rl α} {H : Hp} {vs : List V} {as : List α} (h : RAll R H vs as) : vs.length = as.length := Paired.length h
theorem RAll.snoc {α : Type} {R : Rl α} {H : Hp} {vs : List V} {as : List α} {v : V} {a : α} (h : RAll R H vs as) (q : R H v a) : RAll R H (vs ++ [v]) (as ++ [a]) := Paired.snoc h q
theorem RAll.append {α : Type} {R : Rl α} {H : Hp} : ∀ {vs ws : List V} {as bs : List α}, RAll R H vs as → RAll R H ws bs → RAll R H (vs ++ ws) (as ++ bs)
  | _, _, _, _, .nil, h => h
  | _, _, _, _, .cons a t, h => .cons a (RAll.append t h)
theorem RAll.take {α : Type} {R : Rl α} {H : Hp} : ∀ {vs : List V} {as : List α} (n : Nat), RAll R H vs as → RAll R H (vs.take n) (as.take n)
  | _, _, 0, _ => .nil
  | _, _, _ + 1, .nil => .nil
  | _, _, n + 1, .cons h t => .cons h (RAll.take n t)
theorem RAll.drop {α : Type} {R : Rl α} {H : Hp} : ∀ {vs : List V} {as : List α} (n : Nat), RAll R H vs as → RAll R H (vs.drop n) (as.drop n)
  | _, _, 0, h => h
  | _, _, _ + 1, .nil => .nil
  | _, _, n + 1, .cons _ t => RAll.drop n t
theorem RAll.ints {H : Hp} : ∀ {ns : List Int}, RAll RI H (ns.map V.int) ns
  | [] => .nil
  | _ :: _ => .cons rfl RAll.ints
theorem RAll.of_ints {H : Hp} : ∀ {vs : List V} {ns : List Int}, RAll RI H vs ns → vs = ns.map V.int
  | _, _, .nil => rfl
  | _, _, .cons h t => by
    rw [show _ = V.int _ from h, RAll.of_ints t]
    rfl
theorem RAll.of_strs {H : Hp} : ∀ {vs : List V} {ns : List Str}, RAll RS H vs ns → vs = ns.map V.str
  | _, _, .nil => rfl
  | _, _, .cons h t => by
    rw [show _ = V.str _ from h, RAll.of_strs t]
    rfl
theorem RAll.of_bls {H : Hp} : ∀ {vs : List V} {ns : List Bool}, RAll RB H vs ns → vs = ns.map V.bl
  | _, _, .nil => rfl
  | _, _, .cons h t => by
    rw [show _ = V.bl _ from h, RAll.of_bls t]
    rfl
/-- a tuple of such -/
def RT (K : PySem.W.Frag) {α : Type} (R : Rl α) : Rl (List α) := fun H v as => ∃ p vs, v = .ref p ∧ SqT K H p vs ∧ RAll R H vs as ∧ vs.length ≤ sizeLine
/-- a list of such -/
def RL (K : PySem.W.Frag) {α : Type} (R : Rl α) : Rl (List α) := fun H v as => ∃ p vs, v = .ref p ∧ SqL K H p vs ∧ RAll R H vs as ∧ vs.length ≤ sizeLine
/-- a pair -/
def RP (K : PySem.W.Frag) {α β : Type} (R : Rl α) (S : Rl β) : Rl (α × β) := fun H v ab => ∃ p x y, v = .ref p ∧ SqT K H p [x, y] ∧ R H x ab.1 ∧ S H y ab.2
instance {K : PySem.W.Frag} {α : Type} {R : Rl α} [Up R] : Up (RT K R) := ⟨fun e ⟨p, vs, a, b, c, d⟩ => ⟨p, vs, a, Same.seqT e b, c.up e, d⟩⟩
instance {K : PySem.W.Frag} {α : Type} {R : Rl α} [Up R] : Up (RL K R) := ⟨fun e ⟨p, vs, a, b, c, d⟩ => ⟨p, vs, a, e.seq b, c.up e, d⟩⟩
instance {K : PySem.W.Frag} {α β : Type} {R : Rl α} {S : Rl β} [Up R] [Up S] : Up (RP K R S) := ⟨fun e ⟨p, x, y, a, b, c, d⟩ => ⟨p, x, y, a, Same.seqT e b, Up.up e c, Up.up e d⟩⟩
/-- an instance of a class with two slots, in the order of their names -/
def Ob2 (C : Addr) (H : Hp) (v x y : V) : Prop := ∃ a dx, v = .ref a ∧ SlX.Slt H a C dx [some x, some y]
theorem Slt.up {H H' : Hp} {a C dx : Addr} {vs : List (Option V)} (e : Same H H') (h : SlX.Slt H a C dx vs) : SlX.Slt H' a C dx vs := by
  rcases h with ⟨h1, h2⟩ | ⟨h1, h2⟩
  · exact .inl ⟨e _ _ h1, h2⟩
  · exact .inr ⟨e _ _ h1, e _ _ h2⟩
theorem Ob2.up {C : Addr} {H H' : Hp} {v x y : V} (e : Same H H') (h : Ob2 C H v x y) : Ob2 C H' v x y := by
  obtain ⟨a, dx, h1, h2⟩ := h
  exact ⟨a, dx, h1, Slt.up e h2⟩
/-- a ratio: the bottom stands ahead of the top -/
def RQ (C : Addr) : Rl Rat := fun H v q => Ob2 C H v (.int (q.den : Int)) (.int q.num)
instance {C : Addr} : Up (RQ C) := ⟨fun e h => Ob2.up e h⟩
/-- the same, but the top is told first -/
def RTB (C : Addr) : Rl (Int × Int) := fun H v q => Ob2 C H v (.int q.2) (.int q.1)
instance {C : Addr} : Up (RTB C) := ⟨fun e h => Ob2.up e h⟩

theorem Same.new {H : Hp} {p : Addr} {o : HO} (h : H p = none) : Same H (upd H p o) := fun b u e => by
  rw [upd_ne (ne_of_none e h)]
  exact e
theorem RT.mk {K : PySem.W.Frag} {α : Type} {R : Rl α} [Up R] {H : Hp} {p : Addr} {vs : List V} {as : List α} (hp : H p = none) (h : RAll R H vs as) (hz : vs.length ≤ sizeLine) : RT K R (upd H p (.tup vs)) (.ref p) as :=
  ⟨p, vs, rfl, .inl (.inl upd_same), h.up (Same.new hp), hz⟩
theorem RL.mk {K : PySem.W.Frag} {α : Type} {R : Rl α} [Up R] {H : Hp} {p : Addr} {vs : List V} {as : List α} (hp : H p = none) (h : RAll R H vs as) (hz : vs.length ≤ sizeLine) : RL K R (upd H p (.lst vs)) (.ref p) as :=
  ⟨p, vs, rfl, .inl (.inl upd_same), h.up (Same.new hp), hz⟩
theorem RP.mk {K : PySem.W.Frag} {α β : Type} {R : Rl α} {S : Rl β} [Up R] [Up S] {H : Hp} {p : Addr} {x y : V} {a : α} {b : β} (hp : H p = none) (h1 : R H x a) (h2 : S H y b) : RP K R S (upd H p (.tup [x, y])) (.ref p) (a, b) :=
  ⟨p, x, y, rfl, .inl (.inl upd_same), Up.up (Same.new hp) h1, Up.up (Same.new hp) h2⟩

/-! ### a list in the making, hidden while something else is reckoned -/
def hid (D : Addr) (H : Hp) : Hp := fun b => if b = D then none else H b
theorem hid_same {D : Addr} {H : Hp} : hid D H D = none := if_pos rfl
theorem hid_ne {D b : Addr} {H : Hp} (h : b ≠ D) : hid D H b = H b := if_neg h
theorem hid_some {D b : Addr} {H : Hp} {o : HO} (h : hid D H b = some o) : b ≠ D ∧ H b = some o := by
  by_cases e : b = D
  · rw [e, hid_same] at h
    cases h
  · rw [hid_ne e] at h
    exact ⟨e, h⟩
theorem hid_upd {D : Addr} {H : Hp} {o : HO} (h : H D = none) : hid D (upd H D o) = H := by
  funext b
  by_cases e : b = D
  · rw [e, hid_same, h]
  · rw [hid_ne e, upd_ne e]
theorem upd_hid {D : Addr} {H : Hp} {o : HO} (h : H D = some o) : upd (hid D H) D o = H := by
  funext b
  by_cases e : b = D
  · rw [e, upd_same, h]
  · rw [upd_ne e, hid_ne e]
theorem Same.hid {D : Addr} {H H' : Hp} (e : Same H H') (h : H D = none) : Same H (Wo.hid D H') := fun b o q => by
  have n : b ≠ D := ne_of_none q h
  rw [hid_ne n]
  exact e b o q
section
variable {X : Cx} {pins : List (Addr × Obj)} {σ : L2.St} {H H' : Hp} {s s' : Shared} {D : Addr} {xs : List V}
theorem inv_hid (I : Inv X pins σ H s) (h : H D = some (.lst xs)) {its : List Value} {n : Nat} (e : s.heap.get? D = some { cls := .type "list", data := .seq its.toArray n }) :
    Inv X ((D, { cls := .type "list", data := .seq its.toArray n }) :: pins) σ (hid D H) s := by
  have hn : ∀ b, H b = none → hid D H b = none := fun b q => by
    by_cases z : b = D
    · rw [z, hid_same]
    · rw [hid_ne z]
      exact q
  have nd : ∀ b o, H b = some o → o ≠ .lst xs → hid D H b = some o := fun b o q z => by
    have w : b ≠ D := ne_of q h z
    rw [hid_ne w]
    exact q
  refine ⟨I.ok, I.os, I.bare, ?_, I.loc, I.cell, hn _ I.free, fun x c q => hn _ (I.freeC x c q), fun p hp => ?_, fun b o q => ?_, I.len⟩
  · have B := I.base
    refine ⟨B.keep, B.slot, fun b o q z w => hn _ (B.free b o q z w), B.there, fun b ys q => nd _ _ (B.tups b ys q) (by intro z; cases z), fun b o u q => nd _ _ (B.frzs b o u q) (by intro z; cases z), fun b ps q => ?_⟩
    obtain ⟨more, z⟩ := B.tbls b ps q
    exact ⟨more, nd _ _ z (by intro z; cases z)⟩
  · rcases List.mem_append.mp hp with q | q
    · obtain ⟨a, b, c⟩ := I.pin p (List.mem_append_left _ q)
      exact ⟨a, hn _ b, c⟩
    · rcases List.mem_cons.mp q with q | q
      · subst q
        refine ⟨e, hid_same, fun z => ?_, fun z => ?_, fun v z => by cases z⟩
        · have w : D = X.env.locals := z
          rw [w, I.free] at h
          cases h
        · have w : D ∈ frs X.stack := by
            rcases I.ok.stk with r | ⟨r, _⟩
            · rw [r]
              exact z
            · rw [r]
              exact (by
                unfold frs
                rw [List.filterMap_cons]
                split
                · exact z
                · exact List.mem_cons_of_mem _ z)
          rw [I.stkFree D w] at h
          cases h
      · obtain ⟨a, b, c⟩ := I.pin p (List.mem_append_right _ q)
        exact ⟨a, hn _ b, c⟩
  · obtain ⟨nb, q⟩ := hid_some q
    refine (I.hok b o q).stay (fun c u hc z => z) (fun c z => nd _ _ z (by intro z; cases z)) fun c ys z => nd _ _ z (by intro z; cases z)
theorem inv_unhid (I0 : Inv X pins σ H s) (h : H D = some (.lst xs)) {its : List Value} {n : Nat} (r : Vals xs its) (hz : xs.length ≤ sizeLine)
    (I : Inv X ((D, { cls := .type "list", data := .seq its.toArray n }) :: pins) σ H' s') : Inv X pins σ (upd H' D (.lst xs)) s' ∧ H' D = none := by
  obtain ⟨e, hd, hl, _, _⟩ := I.pin (D, { cls := .type "list", data := .seq its.toArray n }) (List.mem_append_right _ List.mem_cons_self)
  have hd : H' D = none := hd
  refine ⟨⟨I.ok, I.os, I.bare, ?_, I.loc, I.cell, ?_, fun x c q => ?_, fun p hp => ?_, fun b o q => ?_, I.len⟩, hd⟩
  · have B := I.base
    have B0 := I0.base
    have nd : ∀ b o, H' b = some o → upd H' D (.lst xs) b = some o := fun b o q => by
      rw [upd_ne (ne_of_none q hd)]
      exact q
    refine ⟨B.keep, B.slot, fun b o q z w => ?_, B.there, fun b ys q => nd _ _ (B.tups b ys q), fun b o u q => nd _ _ (B.frzs b o u q), fun b ps q => ?_⟩
    · by_cases y : b = D
      · subst y
        rw [B0.free b o q z w] at h
        cases h
      · rw [upd_ne y]
        exact B.free b o q z w
    · obtain ⟨more, z⟩ := B.tbls b ps q
      exact ⟨more, nd _ _ z⟩
  · rw [upd_ne (fun z => hl z.symm)]
    exact I.free
  · by_cases y : c = D
    · subst y
      have := I0.freeC x c q
      rw [this] at h
      cases h
    · rw [upd_ne y]
      exact I.freeC x c q
  · rcases List.mem_append.mp hp with q | q
    · obtain ⟨a, b, c⟩ := I.pin p (List.mem_append_left _ q)
      have y : p.1 ≠ D := fun y => by
        have := (I0.pin p hp).2.1
        rw [y, h] at this
        cases this
      exact ⟨a, by rw [upd_ne y]; exact b, c⟩
    · obtain ⟨a, b, c⟩ := I.pin p (List.mem_append_right _ (List.mem_cons_of_mem _ q))
      have y : p.1 ≠ D := fun y => by
        have := (I0.pin p hp).2.1
        rw [y, h] at this
        cases this
      exact ⟨a, by rw [upd_ne y]; exact b, c⟩
  · by_cases y : b = D
    · subst y
      rw [upd_same] at q
      cases q
      exact ⟨hz, its, n, r, e⟩
    · rw [upd_ne y] at q
      refine (I.hok b o q).stay (fun c u hc z => z) (fun c z => ?_) fun c ys z => ?_
      · rw [upd_ne (ne_of_none z hd)]
        exact z
      · rw [upd_ne (ne_of_none z hd)]
        exact z
/-- the same expression, reckoned while the list at D is hidden -/
def tHid (te : TE) : TE := fun σ H Q => ∃ (D : Addr) (xs : List V), H D = some (.lst xs) ∧ te σ (hid D H) fun v H' => H' D = none → Q v (upd H' D (.lst xs))
theorem pe_hid {e : Expr} {te : TE} (h : PE X e te) : PE X e (tHid te) := by
  refine ⟨fun pins s σ H Q I hq => ?_⟩
  obtain ⟨D, xs, hD, q⟩ := hq
  obtain ⟨hz, its, n, r, e⟩ := (show ObjOk X.prog X.w H s.heap D (.lst xs) from I.hok D _ hD)
  refine thn (h.run _ s σ _ _ (inv_hid I hD e) q) fun u s1 ⟨v, H1, I1, rv, k⟩ => ?_
  obtain ⟨I2, hn⟩ := inv_unhid I hD r hz I1
  exact ⟨v, _, I2, rv, k hn⟩
/-- the same test -/
def tHidT (tt : TT) : TT := fun σ H Q => ∃ (D : Addr) (xs : List V), H D = some (.lst xs) ∧ tt σ (hid D H) fun b H' => H' D = none → Q b (upd H' D (.lst xs))
theorem pt_hid {e : Expr} {tt : TT} (h : PT X e tt) : PT X e (tHidT tt) := by
  refine ⟨fun pins s σ H Q I hq => ?_⟩
  obtain ⟨D, xs, hD, q⟩ := hq
  obtain ⟨hz, its, n, r, e⟩ := (show ObjOk X.prog X.w H s.heap D (.lst xs) from I.hok D _ hD)
  refine thn (h.run _ s σ _ _ (inv_hid I hD e) q) fun b s1 ⟨H1, I1, k⟩ => ?_
  obtain ⟨I2, hn⟩ := inv_unhid I hD r hz I1
  exact ⟨_, I2, k hn⟩
theorem pts_hid {es : List Expr} {tt : TT} (h : PTs X es tt) : PTs X es (tHidT tt) := by
  refine ⟨fun pins s σ H Q I hq => ?_⟩
  obtain ⟨D, xs, hD, q⟩ := hq
  obtain ⟨hz, its, n, r, e⟩ := (show ObjOk X.prog X.w H s.heap D (.lst xs) from I.hok D _ hD)
  refine thn (h.run _ s σ _ _ (inv_hid I hD e) q) fun b s1 ⟨H1, I1, k⟩ => ?_
  obtain ⟨I2, hn⟩ := inv_unhid I hD r hz I1
  exact ⟨_, I2, k hn⟩
end
end Wo
end
section
set_option Elab.async false
set_option linter.all false
set_option maxRecDepth 100000
set_option maxHeartbeats 4000000
/-! Wo, part C: walks over data; comprehensions as maps; loops by an invariant. -/
namespace Wo
open PySem PySem.Spec PyProof.Rows L2

/-- J walks over the data as, each item as R says, while the heap only grows -/
structure Wk {α : Type} (J : It) (H0 : Hp) (R : Rl α) (as : List α) : Prop where
  go : ∀ i H, Same H0 H → i < as.length → J.go i H
  stop : ∀ H, Same H0 H → J.stop as.length H
  yld : ∀ i H x H' a, Same H0 H → as[i]? = some a → J.yld i H x H' → Same H H' ∧ R H' x a
  yldD : ∀ i G D o x H' a, Same H0 G → G D = none → as[i]? = some a → J.yld i (upd G D o) x H' → ∃ G', Same G G' ∧ G' D = none ∧ H' = upd G' D o ∧ R G' x a
section
variable {K : PySem.W.Frag} {α β : Type} {R : Rl α} {S : Rl β} {H : Hp}
theorem wk_list [Up R] {a : Addr} {as : List α} (h : RL K R H (.ref a) as) : Wk (Itl K a) H R as := by
  obtain ⟨p, vs, e, hs, hr, hz⟩ := h
  cases e
  have hl := hr.len
  refine ⟨fun i H' s hi => ?_, fun H' s => ⟨vs, s.seq hs, by omega⟩, fun i H' x H'' b s hb hy => ?_, fun i G D o x H'' b s hD hb hy => ?_⟩
  · have hi' : i < vs.length := by omega
    exact ⟨vs, vs[i], s.seq hs, by simp [hi']⟩
  · obtain ⟨e, y⟩ := hy
    rw [e]
    have y := y vs (s.seq hs)
    obtain ⟨c, hc, rc⟩ := hr.get y
    rw [hb] at hc
    cases hc
    exact ⟨Same.refl _, Up.up s rc⟩
  · obtain ⟨e, y⟩ := hy
    have y := y vs ((s.trans (Same.new hD)).seq hs)
    obtain ⟨c, hc, rc⟩ := hr.get y
    rw [hb] at hc
    cases hc
    exact ⟨G, Same.refl _, hD, e, Up.up s rc⟩
theorem wk_tup [Up R] {a : Addr} {as : List α} (h : RT K R H (.ref a) as) : Wk (Itt K a) H R as := by
  obtain ⟨p, vs, e, hs, hr, hz⟩ := h
  cases e
  have hl := hr.len
  refine ⟨fun i H' s hi => ?_, fun H' s => ⟨vs, Same.seqT s hs, by omega⟩, fun i H' x H'' b s hb hy => ?_, fun i G D o x H'' b s hD hb hy => ?_⟩
  · have hi' : i < vs.length := by omega
    exact ⟨vs, vs[i], Same.seqT s hs, by simp [hi']⟩
  · obtain ⟨e, y⟩ := hy
    rw [e]
    have y := y vs (Same.seqT s hs)
    obtain ⟨c, hc, rc⟩ := hr.get y
    rw [hb] at hc
    cases hc
    exact ⟨Same.refl _, Up.up s rc⟩
  · obtain ⟨e, y⟩ := hy
    have y := y vs (Same.seqT (s.trans (Same.new hD)) hs)
    obtain ⟨c, hc, rc⟩ := hr.get y
    rw [hb] at hc
    cases hc
    exact ⟨G, Same.refl _, hD, e, Up.up s rc⟩
/-- the rgI lo, lo + 1, .. -/
def rgI (lo : Int) (n : Nat) : List Int := (List.range n).map fun i => lo + (i : Nat)
theorem rgI_len (lo : Int) (n : Nat) : (rgI lo n).length = n := by simp [rgI]
theorem rgI_get {lo : Int} {n i : Nat} (h : i < n) : (rgI lo n)[i]? = some (lo + (i : Nat)) := by simp [rgI, h]
theorem rgI_mem {lo x : Int} {n : Nat} : x ∈ rgI lo n ↔ lo ≤ x ∧ x < lo + n := by
  unfold rgI
  rw [List.mem_map]
  constructor
  · rintro ⟨i, hi, rfl⟩
    have := List.mem_range.mp hi
    omega
  · rintro ⟨h1, h2⟩
    exact ⟨(x - lo).toNat, List.mem_range.mpr (by omega), by omega⟩
theorem wk_range {lo : Int} {n : Nat} : Wk (Itr lo n) H RI (rgI lo n) := by
  have hl := rgI_len lo n
  refine ⟨fun i H' s hi => by rw [hl] at hi; exact hi, fun H' s => by rw [hl]; exact Nat.le_refl _, fun i H' x H'' b s hb hy => ?_, fun i G D o x H'' b s hD hb hy => ?_⟩
  · obtain ⟨e, y⟩ := hy
    have hi : i < n := by
      have := (List.getElem?_eq_some_iff.mp hb).1
      omega
    rw [rgI_get hi] at hb
    cases hb
    rw [e]
    exact ⟨Same.refl _, y⟩
  · obtain ⟨e, y⟩ := hy
    have hi : i < n := by
      have := (List.getElem?_eq_some_iff.mp hb).1
      omega
    rw [rgI_get hi] at hb
    cases hb
    exact ⟨G, Same.refl _, hD, e, y⟩
theorem zip_get {as : List α} {bs : List β} {i : Nat} {c : α × β} (h : (as.zip bs)[i]? = some c) : as[i]? = some c.1 ∧ bs[i]? = some c.2 := by
  rw [List.getElem?_zip_eq_some] at h
  exact h
theorem upd_comm {G : Hp} {D T : Addr} {o u : HO} (h : T ≠ D) : upd (upd G D o) T u = upd (upd G T u) D o := by
  funext b
  by_cases h1 : b = T
  · rw [h1, upd_same, upd_ne h, upd_same]
  · rw [upd_ne h1]
    by_cases h2 : b = D
    · rw [h2, upd_same, upd_same]
    · rw [upd_ne h2, upd_ne h2, upd_ne h1]
theorem wk_zip [Up R] [Up S] {a b : Addr} {as : List α} {bs : List β} (h1 : RL K R H (.ref a) as) (h2 : RL K S H (.ref b) bs) : Wk (Itz K a b) H (RP K R S) (as.zip bs) := by
  obtain ⟨p, vs, e, hs, hr, hz⟩ := h1
  obtain ⟨p2, vs2, e2, hs2, hr2, hz2⟩ := h2
  cases e
  cases e2
  have hl := hr.len
  have hl2 := hr2.len
  have hlz : (as.zip bs).length = min as.length bs.length := List.length_zip
  refine ⟨fun i H' s hi => ?_, fun H' s => ⟨vs, vs2, s.seq hs, s.seq hs2, by omega⟩, fun i H' x H'' c s hb hy => ?_, fun i G D o x H'' c s hD hb hy => ?_⟩
  · have hi1 : i < vs.length := by omega
    have hi2 : i < vs2.length := by omega
    exact ⟨vs, vs2, vs[i], vs2[i], s.seq hs, s.seq hs2, by simp [hi1], by simp [hi2]⟩
  · obtain ⟨T, x1, y1, ex, hT, eH, k1, k2⟩ := hy
    obtain ⟨c1, c2⟩ := zip_get hb
    obtain ⟨d1, e1, r1⟩ := hr.get (k1 vs (s.seq hs))
    obtain ⟨d2, e2, r2⟩ := hr2.get (k2 vs2 (s.seq hs2))
    rw [c1] at e1
    rw [c2] at e2
    cases e1
    cases e2
    subst ex eH
    exact ⟨Same.new hT, RP.mk hT (Up.up s r1) (Up.up s r2)⟩
  · obtain ⟨T, x1, y1, ex, hT, eH, k1, k2⟩ := hy
    have s' : Same H (upd G D o) := s.trans (Same.new hD)
    obtain ⟨c1, c2⟩ := zip_get hb
    obtain ⟨d1, e1, r1⟩ := hr.get (k1 vs (s'.seq hs))
    obtain ⟨d2, e2, r2⟩ := hr2.get (k2 vs2 (s'.seq hs2))
    rw [c1] at e1
    rw [c2] at e2
    cases e1
    cases e2
    subst ex eH
    have hTD : T ≠ D := fun z => by
      rw [z, upd_same] at hT
      cases hT
    rw [upd_ne hTD] at hT
    exact ⟨upd G T (.tup [x1, y1]), Same.new hT, by rw [upd_ne (Ne.symm hTD)]; exact hD, upd_comm hTD, RP.mk hT (Up.up s r1) (Up.up s r2)⟩
theorem wk_zipT [Up R] [Up S] {a b : Addr} {as : List α} {bs : List β} (h1 : RT K R H (.ref a) as) (h2 : RT K S H (.ref b) bs) : Wk (RZ.ItzT K a b) H (RP K R S) (as.zip bs) := by
  obtain ⟨p, vs, e, hs, hr, hz⟩ := h1
  obtain ⟨p2, vs2, e2, hs2, hr2, hz2⟩ := h2
  cases e
  cases e2
  have hl := hr.len
  have hl2 := hr2.len
  have hlz : (as.zip bs).length = min as.length bs.length := List.length_zip
  refine ⟨fun i H' s hi => ?_, fun H' s => ⟨vs, vs2, Same.seqT s hs, Same.seqT s hs2, by omega⟩, fun i H' x H'' c s hb hy => ?_, fun i G D o x H'' c s hD hb hy => ?_⟩
  · have hi1 : i < vs.length := by omega
    have hi2 : i < vs2.length := by omega
    exact ⟨vs, vs2, vs[i], vs2[i], Same.seqT s hs, Same.seqT s hs2, by simp [hi1], by simp [hi2]⟩
  · obtain ⟨T, x1, y1, ex, hT, eH, k1, k2⟩ := hy
    obtain ⟨c1, c2⟩ := zip_get hb
    obtain ⟨d1, e1, r1⟩ := hr.get (k1 vs (Same.seqT s hs))
    obtain ⟨d2, e2, r2⟩ := hr2.get (k2 vs2 (Same.seqT s hs2))
    rw [c1] at e1
    rw [c2] at e2
    cases e1
    cases e2
    subst ex eH
    exact ⟨Same.new hT, RP.mk hT (Up.up s r1) (Up.up s r2)⟩
  · obtain ⟨T, x1, y1, ex, hT, eH, k1, k2⟩ := hy
    have s' : Same H (upd G D o) := s.trans (Same.new hD)
    obtain ⟨c1, c2⟩ := zip_get hb
    obtain ⟨d1, e1, r1⟩ := hr.get (k1 vs (Same.seqT s' hs))
    obtain ⟨d2, e2, r2⟩ := hr2.get (k2 vs2 (Same.seqT s' hs2))
    rw [c1] at e1
    rw [c2] at e2
    cases e1
    cases e2
    subst ex eH
    have hTD : T ≠ D := fun z => by
      rw [z, upd_same] at hT
      cases hT
    rw [upd_ne hTD] at hT
    exact ⟨upd G T (.tup [x1, y1]), Same.new hT, by rw [upd_ne (Ne.symm hTD)]; exact hD, upd_comm hTD, RP.mk hT (Up.up s r1) (Up.up s r2)⟩
theorem wk_enum [Up R] {a : Addr} {as : List α} (h : RL K R H (.ref a) as) : Wk (Ite K a) H (RP K RI R) ((rgI 0 as.length).zip as) := by
  obtain ⟨p, vs, e, hs, hr, hz⟩ := h
  cases e
  have hl := hr.len
  have hlz : ((rgI 0 as.length).zip as).length = as.length := by rw [List.length_zip, rgI_len, Nat.min_self]
  refine ⟨fun i H' s hi => ?_, fun H' s => ⟨vs, s.seq hs, by omega⟩, fun i H' x H'' c s hb hy => ?_, fun i G D o x H'' c s hD hb hy => ?_⟩
  · have hi1 : i < vs.length := by omega
    exact ⟨vs, vs[i], s.seq hs, by simp [hi1]⟩
  · obtain ⟨T, x1, ex, hT, eH, k1⟩ := hy
    obtain ⟨c1, c2⟩ := zip_get hb
    have hi : i < as.length := by
      have := (List.getElem?_eq_some_iff.mp hb).1
      omega
    rw [rgI_get hi] at c1
    obtain ⟨d1, e1, r1⟩ := hr.get (k1 vs (s.seq hs))
    rw [c2] at e1
    cases e1
    subst ex eH
    have hc1 : c.1 = ((i : Nat) : Int) := by
      have := Option.some.inj c1
      omega
    exact ⟨Same.new hT, RP.mk (a := c.1) (b := c.2) hT (by rw [hc1]; rfl) (Up.up s r1)⟩
  · obtain ⟨T, x1, ex, hT, eH, k1⟩ := hy
    have s' : Same H (upd G D o) := s.trans (Same.new hD)
    obtain ⟨c1, c2⟩ := zip_get hb
    have hi : i < as.length := by
      have := (List.getElem?_eq_some_iff.mp hb).1
      omega
    rw [rgI_get hi] at c1
    obtain ⟨d1, e1, r1⟩ := hr.get (k1 vs (s'.seq hs))
    rw [c2] at e1
    cases e1
    subst ex eH
    have hTD : T ≠ D := fun z => by
      rw [z, upd_same] at hT
      cases hT
    rw [upd_ne hTD] at hT
    have hc1 : c.1 = ((i : Nat) : Int) := by
      have := Option.some.inj c1
      omega
    exact ⟨upd G T (.tup [.int (i : Nat), x1]), Same.new hT, by rw [upd_ne (Ne.symm hTD)]; exact hD, upd_comm hTD, RP.mk (a := c.1) (b := c.2) hT (by rw [hc1]; rfl) (Up.up s r1)⟩
end

/-- storing the item makes the slots σ2 of the slots σ1, in every later heap -/
def GOk (g : TG) (x : V) (σ1 : L2.St) (H : Hp) (σ2 : L2.St) : Prop := ∀ H', Same H H' → ∀ Q : L2.St → Hp → Prop, Q σ2 H' → g x σ1 H' Q
theorem gok_name {i : Nat} {x : V} {σ : L2.St} {H : Hp} : GOk (gName i) x σ H (σ.set i (some x)) := fun _ _ _ q => q
theorem gok_pair {K : PySem.W.Frag} {p : Addr} {x y : V} {g1 g2 : TG} {σ σ1 σ2 : L2.St} {H : Hp} (h : SqT K H p [x, y]) (k1 : GOk g1 x σ H σ1) (k2 : GOk g2 y σ1 H σ2) : GOk (gTup K 2 (gCons g1 (gCons g2 gNil))) (.ref p) σ H σ2 := fun H' s Q q =>
  ⟨p, [x, y], rfl, Same.seqT s h, rfl, x, [y], rfl, k1 H' s _ ⟨y, [], rfl, k2 H' s _ ⟨rfl, q⟩⟩⟩

theorem tYes_of {σ : L2.St} {H : Hp} {A B : Hp → Prop} (h : A H) : tYes σ H fun b H3 => if b = true then A H3 else B H3 := by
  show (if true = true then A H else B H)
  rw [if_pos rfl]
  exact h
section
variable {K : PySem.W.Frag} {α β : Type} {R : Rl α} {S : Rl β} [Up R] [Up S] {J : It} {H1 : Hp} {as : List α} {g : TG} {te : TE} {tt : TT} {vs : List Nat} {σ : L2.St}
/-- [e for x in xs], e without a test: a map; f gives the item's due value -/
theorem lc_map (W : Wk J H1 R as) (hz : as.length ≤ sizeLine) (f : Nat → α → β) {Qd : Addr → Hp → Prop}
    (hb : ∀ i a G x, as[i]? = some a → Same H1 G → R G x a → ∃ σ2, GOk g x (wipe σ vs) G σ2 ∧ wipe σ2 vs = wipe σ vs ∧ ∀ Kt : VK, (∀ y G', Same G G' → S G' y (f i a) → Kt y G') → te σ2 G Kt)
    (hd : ∀ D H', Same H1 H' → RL K S H' (.ref D) (as.mapIdx f) → Qd D H') :
    ∀ D, H1 D = none → ∃ W : Nat → Nat → Hp → Prop, (∃ m, W 0 m (upd H1 D (.lst []))) ∧ ∀ i m H, W i m H →
      (J.stop i H ∧ Qd D H) ∨ (J.go i H ∧ ∃ Nx : Hp → Prop, (∀ H', Nx H' → ∃ m', m' < m ∧ W (i + 1) m' H') ∧ ∀ x H', J.yld i H x H' → g x (wipe σ vs) H' fun σ2 H2 => wipe σ2 vs = wipe σ vs ∧ tYes σ2 H2 fun b H3 =>
        if b = true then (tHid te) σ2 H3 fun y H4 => ∃ acc, H4 D = some (.lst acc) ∧ acc.length < sizeLine ∧ Nx (upd H4 D (.lst (acc ++ [y]))) else Nx H3) := by
  intro D hD
  refine ⟨fun i m H => m = as.length - i ∧ i ≤ as.length ∧ ∃ G acc, H = upd G D (.lst acc) ∧ G D = none ∧ Same H1 G ∧ RAll S G acc ((as.mapIdx f).take i), ⟨as.length, by simp, Nat.zero_le _, H1, [], rfl, hD, Same.refl _, by rw [List.take_zero]; exact .nil⟩, ?_⟩
  rintro i m H ⟨rfl, hi, G, acc, rfl, hG, s, ra⟩
  have hla : acc.length = i := by
    rw [ra.len, List.length_take, List.length_mapIdx]
    omega
  by_cases hlt : i < as.length
  · refine .inr ⟨W.go i _ (s.trans (Same.new hG)) hlt, fun H' => ∃ G' acc', H' = upd G' D (.lst acc') ∧ G' D = none ∧ Same H1 G' ∧ RAll S G' acc' ((as.mapIdx f).take (i + 1)), ?_, ?_⟩
    · rintro H' ⟨G', acc', e, h1, h2, h3⟩
      exact ⟨as.length - (i + 1), by omega, rfl, hlt, G', acc', e, h1, h2, h3⟩
    · intro x H' hy
      obtain ⟨G', s2, hG', eH, rx⟩ := W.yldD i G D _ x H' as[i] s hG (by simp [hlt]) hy
      subst eH
      obtain ⟨σ2, gk, hw, ht⟩ := hb i as[i] G' x (by simp [hlt]) (s.trans s2) rx
      refine gk _ (Same.new hG') _ ⟨hw, ?_⟩
      refine tYes_of ?_
      refine ⟨D, acc, upd_same, ?_⟩
      rw [hid_upd hG']
      refine ht _ fun y G2 s3 hy2 hG2 => ?_
      refine ⟨acc, upd_same, by omega, G2, acc ++ [y], ?_, hG2, (s.trans s2).trans s3, ?_⟩
      · rw [upd_upd]
      · have e : (as.mapIdx f).take (i + 1) = (as.mapIdx f).take i ++ [f i as[i]] := by
          rw [List.take_succ]
          simp [hlt]
        rw [e]
        exact (ra.up (s2.trans s3)).snoc hy2
  · have e : i = as.length := by omega
    subst e
    refine .inl ⟨W.stop _ (s.trans (Same.new hG)), hd D _ (s.trans (Same.new hG)) ?_⟩
    have e2 : (as.mapIdx f).take as.length = as.mapIdx f := by
      rw [List.take_of_length_le]
      simp
    rw [e2] at ra
    exact RL.mk hG ra (by omega)
end
end Wo
end
section
set_option Elab.async false
set_option linter.all false
set_option maxRecDepth 100000
set_option maxHeartbeats 4000000
/-! Wo, part D: readings, step by step. -/
namespace Wo
open PySem PySem.Spec PyProof.Rows L2
section
variable {σ : L2.St} {H : Hp} {Q : VK} {D : Ends} {v x y : V} {i j : Int} {n : Nat} {ta tb tc te : TE} {t u : TS} {tt tt' : TT} {K : PySem.W.Frag} {ts : TA}
theorem rd_var (h : σ[n]? = some (some v)) (q : Q v H) : tVar n σ H Q := ⟨v, h, q⟩
theorem rd_c (q : Q v H) : tC v σ H Q := q
theorem rd_op {r : R2} (q : ta σ H fun x H1 => tb σ H1 fun y H2 => r x y H2 Q) : tOp r ta tb σ H Q := q
theorem rd_un {r : V → Hp → VK → Prop} (q : ta σ H fun x H1 => r x H1 Q) : tUn r ta σ H Q := q
theorem rd_I0 {g : Int → Int → V} (q : Q (g i j) H) : rI0 g (.int i) (.int j) H Q := ⟨i, j, rfl, rfl, q⟩
theorem rd_I {C : Int → Int → Prop} {g : Int → Int → V} (q : Q (g i j) H) (c : C i j) : rI C g (.int i) (.int j) H Q := ⟨i, j, rfl, rfl, c, q⟩
theorem rd_U {g : Int → V} (q : Q (g i) H) : rU g (.int i) H Q := ⟨i, rfl, q⟩
theorem rd_eqI (q : Q (.bl (decide (i = j))) H) : rEq (.int i) (.int j) H Q := by
  refine ⟨rfl, ?_⟩
  have e : decide (V.int i = V.int j) = decide (i = j) := decide_eq_decide.mpr ⟨fun h => V.int.inj h, fun h => congrArg _ h⟩
  rw [e]
  exact q
theorem rd_neI (q : Q (.bl (!decide (i = j))) H) : rNe (.int i) (.int j) H Q := by
  refine ⟨rfl, ?_⟩
  have e : decide (V.int i = V.int j) = decide (i = j) := decide_eq_decide.mpr ⟨fun h => V.int.inj h, fun h => congrArg _ h⟩
  rw [e]
  exact q
theorem rd_eqS {a b : Str} (q : Q (.bl (decide (a = b))) H) : rEq (.str a) (.str b) H Q := by
  refine ⟨rfl, ?_⟩
  have e : decide (V.str a = V.str b) = decide (a = b) := decide_eq_decide.mpr ⟨fun h => V.str.inj h, fun h => congrArg _ h⟩
  rw [e]
  exact q
theorem rd_neS {a b : Str} (q : Q (.bl (!decide (a = b))) H) : rNe (.str a) (.str b) H Q := by
  refine ⟨rfl, ?_⟩
  have e : decide (V.str a = V.str b) = decide (a = b) := decide_eq_decide.mpr ⟨fun h => V.str.inj h, fun h => congrArg _ h⟩
  rw [e]
  exact q
theorem rd_test {P : Bool → Hp → Prop} (q : te σ H fun x H' => ∃ k, x = .bl k ∧ P k H') : tTest te σ H P := q
theorem rd_tB {P : Bool → Hp → Prop} (q : te σ H fun x H' => ∃ k, x = .bl k ∧ P k H') : tB te σ H P := q
theorem rd_exB {P : Bool → Prop} {b : Bool} (q : P b) : ∃ k, V.bl b = .bl k ∧ P k := ⟨b, rfl, q⟩
theorem rd_and {P : Bool → Hp → Prop} (q : tt σ H fun c H1 => if c = true then tt' σ H1 P else P false H1) : tAnd tt tt' σ H P := q
theorem rd_or {P : Bool → Hp → Prop} (q : tt σ H fun c H1 => if c = true then P true H1 else tt' σ H1 P) : tOr tt tt' σ H P := q
theorem rd_not {P : Bool → Hp → Prop} (q : tt σ H fun c H1 => P (!c) H1) : tNot tt σ H P := q
theorem rd_andV (q : ta σ H fun x H1 => ∃ c, x = .bl c ∧ if c = true then tb σ H1 Q else Q (.bl false) H1) : tAndV ta tb σ H Q := q
theorem rd_orV (q : ta σ H fun x H1 => ∃ c, x = .bl c ∧ if c = true then Q (.bl true) H1 else tb σ H1 Q) : tOrV ta tb σ H Q := q
theorem rd_notV (q : ta σ H fun x H1 => ∃ c, x = .bl c ∧ Q (.bl (!c)) H1) : tNotV ta σ H Q := q
theorem rd_if (q : tt σ H fun c H1 => if c = true then ta σ H1 Q else tb σ H1 Q) : tIf tt ta tb σ H Q := q
theorem rd_chain {r r' : R2} (q : ta σ H fun x H1 => tb σ H1 fun y H2 => r x y H2 fun z H3 => ∃ k, z = .bl k ∧ (if k = true then tc σ H3 fun w' H4 => r' y w' H4 Q else Q (.bl false) H3)) : tChain r r' ta tb tc σ H Q := q
theorem rd_nil {P : List V → Hp → Prop} (q : P [] H) : tNil σ H P := q
theorem rd_cons {P : List V → Hp → Prop} (q : ta σ H fun x H1 => ts σ H1 fun xs H2 => P (x :: xs) H2) : tCons ta ts σ H P := q
theorem rd_call {sp : Sp} {E : XK} (q : ts σ H fun vs H1 => sp vs H1 Q E) : tCallR sp E ts σ H Q := q
theorem rd_cb {r : List V → Hp → VK → Prop} (q : ts σ H fun vs H1 => r vs H1 Q) : tCB r ts σ H Q := q
theorem rd_tup (q : ts σ H fun xs H1 => xs.length ≤ sizeLine ∧ ∀ p, H1 p = none → Q (.ref p) (upd H1 p (.tup xs))) : tTup ts σ H Q := q
theorem rd_lst (q : ts σ H fun xs H1 => xs.length ≤ sizeLine ∧ ∀ p, H1 p = none → Q (.ref p) (upd H1 p (.lst xs))) : tLst ts σ H Q := q
theorem rd_newT {xs : List V} (k : ∀ p H2, H p = none → Same H H2 → H2 p = some (.tup xs) → Q (.ref p) H2) (hz : xs.length ≤ sizeLine) : xs.length ≤ sizeLine ∧ ∀ p, H p = none → Q (.ref p) (upd H p (.tup xs)) :=
  ⟨hz, fun p hp => k p _ hp (Same.new hp) upd_same⟩
theorem rd_newL {xs : List V} (k : ∀ p H2, H p = none → Same H H2 → H2 p = some (.lst xs) → Q (.ref p) H2) (hz : xs.length ≤ sizeLine) : xs.length ≤ sizeLine ∧ ∀ p, H p = none → Q (.ref p) (upd H p (.lst xs)) :=
  ⟨hz, fun p hp => k p _ hp (Same.new hp) upd_same⟩
theorem rd_seq (q : t { D with nx := u D } σ H) : tSeq t u D σ H := q
theorem rd_next (q : D.nx σ H) : tNext D σ H := q
theorem rd_drop (q : te σ H fun _ H1 => D.nx σ H1) : tDrop te D σ H := q
theorem rd_ret (q : te σ H D.rt) : tRet te D σ H := q
theorem rd_retN (q : D.rt .non H) : tRetN D σ H := q
theorem rd_ifS (q : tt σ H fun b H1 => if b = true then t D σ H1 else u D σ H1) : tIfS tt t u D σ H := q
theorem rd_asg {g : TG} (q : te σ H fun x H1 => g x σ H1 D.nx) : tAsg te g D σ H := q
theorem rd_gname {P : L2.St → Hp → Prop} (q : P (σ.set n (some v)) H) : gName n v σ H P := q
theorem rd_par {m : Nat} (q : ts σ H fun vs H1 => ∃ v w, vs = [v, w] ∧ D.nx ((σ.set n (some v)).set m (some w)) H1) : tPar n m ts D σ H := q
theorem rd_ex2 {P : V → V → Prop} (q : P v x) : ∃ a b, [v, x] = [a, b] ∧ P a b := ⟨v, x, rfl, q⟩
theorem rd_cont (q : D.ct σ H) : tCont D σ H := q
theorem rd_brk (q : D.bk σ H) : tBreak D σ H := q
end
/-! ### tests whose answer is known, or open -/
section
variable {A B P : Prop} {b : Bool}
theorem ite_dec [Decidable P] (h1 : P → A) (h2 : ¬ P → B) : if decide P = true then A else B := by
  by_cases h : P
  · rw [if_pos (decide_eq_true h)]
    exact h1 h
  · rw [if_neg (by simpa using h)]
    exact h2 h
theorem ite_ndec [Decidable P] (h1 : ¬ P → A) (h2 : P → B) : if (!decide P) = true then A else B := by
  by_cases h : P
  · rw [if_neg (by simpa using h)]
    exact h2 h
  · rw [if_pos (by simpa using h)]
    exact h1 h
theorem ite_b (h1 : b = true → A) (h2 : b = false → B) : if b = true then A else B := by
  cases b with
  | true => rw [if_pos rfl]; exact h1 rfl
  | false => rw [if_neg Bool.false_ne_true]; exact h2 rfl
theorem ite_nb (h1 : b = false → A) (h2 : b = true → B) : if (!b) = true then A else B := by
  cases b with
  | true => exact h2 rfl
  | false => exact h1 rfl
theorem ite_T (h : A) : if true = true then A else B := by rw [if_pos rfl]; exact h
theorem ite_F (h : B) : if false = true then A else B := by rw [if_neg Bool.false_ne_true]; exact h
theorem ite_t (e : b = true) (h : A) : if b = true then A else B := by rw [if_pos e]; exact h
theorem ite_f (e : b = false) (h : B) : if b = true then A else B := by rw [e]; exact ite_F h
end
end Wo
end
section
set_option Elab.async false
set_option linter.all false
set_option maxRecDepth 100000
set_option maxHeartbeats 4000000
/-! Wo, part E: constructors, slots, properties, built-ins over data; a list that is known by what is true of it. -/
namespace Wo
open PySem PySem.Spec PyProof.Rows L2

/-! ### a class that is called -/
def Ctor (P : Program) (w : World) (K : PySem.W.Frag) (mg : Str → Option Value) (base : Heap) (k : Nat) (x : Str) (sp : Sp) : Prop :=
  ∃ (C fi : Addr) (spi : Sp), mg x = some (.ref C) ∧ Mk K C fi ∧ FnR P w K mg base (CXW P w) k fi spi ∧
    ∀ vs H Q E, sp vs H Q E → ∀ y dx, H y = none → H dx = none → dx ≠ y → spi (.ref y :: vs) (upd (upd H dx (.own y)) y (.ins C dx [])) (fun v H2 => v = .non ∧ Q (.ref y) H2) E
section
variable {X : Cx} {k j : Nat} {sp : Sp} {x : Str} {p pos : Pos} {e : Expr} {es : List Expr} {t : TA} {E : XK}
theorem run_ctor {CXs : Passes (CXW X.prog X.w) X E} {pins : List (Addr × Obj)} {σ : L2.St} {H : Hp} {s : Shared} {Q : VK} {us : List Value} {vs : List V} (c : Ctor X.prog X.w X.K X.mg X.base k x sp) (hr : Room j X.A) (hk : k + 1 ≤ j) (hg : Gl X x)
    (I : Inv X pins σ H s) (r : Vals vs us) (h : sp vs H Q E) : ∃ C, X.mg x = some (.ref C) ∧ PySem.W.keepIn X.K (.ref C) = true ∧ wpAny (model X.prog X.w) X.A (call (.ref C) us) (EP X pins σ Q) X.xe s := by
  obtain ⟨C, fi, spi, hm, M, F, k⟩ := c
  exact ⟨C, hm, M.kp, StX.run_makeR M F (hr.mono hk) CXs I r fun y dx h1 h2 h3 => k vs H Q E h y dx h1 h2 h3⟩
/-- C(e, ..), nothing is raised -/
theorem pm (c : Ctor X.prog X.w X.K X.mg X.base k x sp) (hr : Room j X.A) (ha : PA X (e :: es) t) (hk : k + 1 ≤ j := by decide) (hg : Gl X x := by rfl) (hdb : (x == ("__debug__" : Str)) = false := by decide)
    (he : starEach (e :: es) X.env = (false, eval e X.env) :: starEach es X.env := by rfl) (hpl : (backTo pos (starEach es X.env)).any (·.1) = false := by rfl) : PE X (.Call (.Name x p) (e :: es) [] pos) (tCallR sp E0 t) := by
  obtain ⟨C, fi, spi, hm, M, F, kk⟩ := c
  refine ⟨fun pins s σ H Q I h => ?_⟩
  refine wpAny_Call_Name_kw (ld_glob I hg hm ?_ hdb)
  refine PySem.W.callWith_K (h₀ := X.base) I.ok.mod.kin M.kp (thn (ha.run pos pins s σ H _ I h) fun us s1 ⟨vs, H1, I1, r, q⟩ => ⟨I1.kIn, ?_⟩) he hpl
  exact StX.run_makeR M F (hr.mono hk) passF I1 r fun y dx h1 h2 h3 => kk vs H1 Q E0 q y dx h1 h2 h3
/-- a global that holds an int -/
theorem pe_gI {i : Int} (h : ∃ t, X.mg x = some (.int i t)) (hg : Gl X x := by rfl) (hd : (x == ("__debug__" : Str)) = false := by decide) (hc : (x == ("__classdict__" : Str)) = false := by decide) : PE X (.Name x pos) (tC (.int i)) := by
  obtain ⟨t, h⟩ := h
  exact pe_glob hg h (show RelV (.int i) (.int i t) from ⟨t, rfl⟩) hd
end

/-! ### slots -/
section
variable {K : PySem.W.Frag} {C fi : Addr} {f0 f1 : Str} {σ : L2.St} {H : Hp} {Q : VK} {v x y z : V} {D : Ends} {ta tv : TE}
theorem rd_slot {f : Str} (q : ta σ H fun x H1 => ∃ a C dx p vs i v, x = .ref a ∧ SlX.Slt H1 a C dx vs ∧ SlX.SCls K C ∧ SlX.Slot1 K C f p i ∧ vs[i]? = some (some v) ∧ Q v H1) : SlX.tSl K ta f σ H Q := q
theorem rd_slot0 {Q : V → Prop} (T : Sl2 K C f0 f1 fi) (h : Ob2 C H v x y) (q : Q x) : ∃ a C dx p vs i z, v = .ref a ∧ SlX.Slt H a C dx vs ∧ SlX.SCls K C ∧ SlX.Slot1 K C f0 p i ∧ vs[i]? = some (some z) ∧ Q z := by
  obtain ⟨a, dx, e, s⟩ := h
  obtain ⟨p, sp⟩ := T.s0
  exact ⟨a, C, dx, p, _, 0, x, e, s, T.cl, sp, rfl, q⟩
theorem rd_slot1 {Q : V → Prop} (T : Sl2 K C f0 f1 fi) (h : Ob2 C H v x y) (q : Q y) : ∃ a C dx p vs i z, v = .ref a ∧ SlX.Slt H a C dx vs ∧ SlX.SCls K C ∧ SlX.Slot1 K C f1 p i ∧ vs[i]? = some (some z) ∧ Q z := by
  obtain ⟨a, dx, e, s⟩ := h
  obtain ⟨p, sp⟩ := T.s1
  exact ⟨a, C, dx, p, _, 1, y, e, s, T.cl, sp, rfl, q⟩
theorem rd_sst {f : Str} (q : tv σ H fun y H1 => ta σ H1 fun x H2 => ∃ a C dx p vs i, x = .ref a ∧ SlX.Slt H2 a C dx vs ∧ SlX.SCls K C ∧ SlX.Slot1 K C f p i ∧ D.nx σ (SlX.slH H2 a C dx (SlX.putS i y vs))) : SlX.sSl K ta tv f D σ H := q
/-- the promise of an __init__(self, a, b) that stores a as the second slot, then b as the first -/
def sp_init2 (C : Addr) : Sp := sp3 fun s a b H Q _ => ∃ y dx, s = .ref y ∧ dx ≠ y ∧ H y = some (.ins C dx []) ∧ ∀ H', SlX.Slt H' y C dx [some b, some a] → (∀ c o, H c = some o → c ≠ y → c ≠ dx → H' c = some o) → Q .non H'
end

/-! ### a list that is known by what is true of it -/
def UrnO (u : Addr) (P : List V → Prop) : HO := .ext fun h => ∃ (xs : List V) (its : List Value) (n : Nat), P xs ∧ xs.length ≤ sizeLine ∧ Vals xs its ∧ h.get? u = some { cls := .type "list", data := .seq its.toArray n }
theorem urn_ok {P : Program} {w : World} {H : Hp} {h : Heap} {u : Addr} {p : List V → Prop} {xs : List V} (hp : p xs) (q : ObjOk P w H h u (.lst xs)) {H' : Hp} : ObjOk P w H' h u (UrnO u p) := by
  obtain ⟨z, its, n, r, e⟩ := q
  refine ⟨⟨xs, its, n, hp, z, r, e⟩, ⟨_, e⟩, fun h1 h2 ⟨xs, its, n, a, b, c, d⟩ st => ⟨xs, its, n, a, b, c, st _ d⟩⟩
theorem urn_lst {P : Program} {w : World} {H : Hp} {h : Heap} {u : Addr} {p : List V → Prop} (q : ObjOk P w H h u (UrnO u p)) : ∃ xs, p xs ∧ ∀ H', ObjOk P w H' h u (.lst xs) := by
  obtain ⟨⟨xs, its, n, hp, z, r, e⟩, _, _⟩ := q
  exact ⟨xs, hp, fun H' => ⟨z, its, n, r, e⟩⟩
section
variable {P : Program} {w : World} {K : PySem.W.Frag} {mg : Str → Option Value} {base : Heap} {k : Nat} {f : Addr} {sp spC : Sp} {p : List V → Prop}
theorem hok_swap {H : Hp} {h : Heap} {u : Addr} {o o' : HO} (hok : HOk P w H h) (hu : H u = some o) (h1 : ∀ x, o ≠ .own x) (h2 : ∀ xs, o ≠ .tup xs) (new : ObjOk P w (upd H u o') h u o') : HOk P w (upd H u o') h := fun b q e => by
  by_cases z : b = u
  · subst z
    rw [upd_same] at e
    cases e
    exact new
  · rw [upd_ne z] at e
    refine (hok b q e).stay (fun c v hc z => z) (fun c z => ?_) fun c xs z => ?_
    · rw [upd_ne (ne_of z hu (Ne.symm (h1 b)))]
      exact z
    · rw [upd_ne (ne_of z hu (Ne.symm (h2 xs)))]
      exact z
/-- a def over a written list, over one that is known by p alone -/
theorem fnR_urn (F : FnR P w K mg base (CXW P w) k f spC)
    (h : ∀ vs H Q E, sp vs H Q E → ∃ u, H u = some (UrnO u p) ∧ ∀ xs, p xs → spC vs (upd H u (.lst xs)) (fun v H' => ∃ ys, p ys ∧ H' u = some (.lst ys) ∧ Q v (upd H' u (UrnO u p))) E0) : FnR P w K mg base (CXW P w) k f sp := by
  intro A outer s H us vs Q E hr e0 r hs
  obtain ⟨u, hu, h⟩ := h vs H Q E hs
  obtain ⟨xs, hp, hl⟩ := urn_lst (e0.hok u _ hu)
  have hn : ∀ b, H b = none → upd H u (.lst xs) b = none := fun b q => by
    rw [upd_ne (fun z => by rw [z, hu] at q; cases q)]
    exact q
  have nd : ∀ b o, H b = some o → o ≠ UrnO u p → upd H u (.lst xs) b = some o := fun b o q z => by
    rw [upd_ne (ne_of q hu z)]
    exact q
  have e1 : Env0 P w K mg base A outer s (upd H u (.lst xs)) := ⟨e0.frames, e0.mod, fun b o q => ⟨(e0.bs b o q).1, hn b (e0.bs b o q).2⟩, e0.bsz, e0.funs, fun b q => hn b (e0.frf b q), hok_swap e0.hok hu (fun x z => by unfold UrnO at z; cases z) (fun x z => by unfold UrnO at z; cases z) (hl _), e0.bare⟩
  refine codeAny_mono (F A outer s _ us vs _ E0 hr e1 r (h xs hp)) fun r s' hq => ?_
  cases r with
  | error e =>
    obtain ⟨a, B, H', cls, d, _, _, _, _, _, _, _, h⟩ := (show CXW P w outer _ s E0 e s' from hq)
    exact h.elim
  | ok fl =>
    cases fl with
    | ret v =>
      obtain ⟨x, H', h1, h2, un, ok, rv, ys, hy, hH, q⟩ := (show CE outer P w _ s _ v s' from hq)
      refine ⟨x, upd H' u (UrnO u p), h1, h2, ?_, ?_, rv, q⟩
      · have nu : ∀ b o, H' b = some o → o ≠ .lst ys → upd H' u (UrnO u p) b = some o := fun b o q z => by
          rw [upd_ne (ne_of q hH z)]
          exact q
        refine ⟨fun b o a c d e => un.keep b o a (hn b c) d e, fun b o a c d e => un.slot b o a (hn b c) d e, fun b o a c d => ?_, un.there, fun b zs q => ?_, fun b o v q => ?_, fun b ps q => ?_⟩
        · rw [upd_ne (fun z => by rw [z, hu] at c; cases c)]
          exact un.free b o a (hn b c) d
        · exact nu _ _ (un.tups b zs (nd _ _ q (by intro z; unfold UrnO at z; cases z))) (by intro z; cases z)
        · exact nu _ _ (un.frzs b o v (nd _ _ q (by intro z; unfold UrnO at z; cases z))) (by intro z; cases z)
        · obtain ⟨more, q2⟩ := un.tbls b ps (nd _ _ q (by intro z; unfold UrnO at z; cases z))
          exact ⟨more, nu _ _ q2 (by intro z; cases z)⟩
      · exact hok_swap ok hH (fun x z => by cases z) (fun x z => by cases z) (urn_ok hy (ok u _ hH))
    | next => exact False.elim hq
    | brk => exact False.elim hq
    | cont => exact False.elim hq
/-- a def that makes a list, of which p alone is told -/
theorem fnR_made (F : FnR P w K mg base (CXW P w) k f spC)
    (h : ∀ vs H Q E, sp vs H Q E → spC vs H (fun v H' => ∃ u ys, v = .ref u ∧ H' u = some (.lst ys) ∧ p ys ∧ H u = none ∧ Q v (upd H' u (UrnO u p))) E0) : FnR P w K mg base (CXW P w) k f sp := by
  intro A outer s H us vs Q E hr e0 r hs
  refine codeAny_mono (F A outer s _ us vs _ E0 hr e0 r (h vs H Q E hs)) fun r s' hq => ?_
  cases r with
  | error e =>
    obtain ⟨a, B, H', cls, d, _, _, _, _, _, _, _, h⟩ := (show CXW P w outer _ s E0 e s' from hq)
    exact h.elim
  | ok fl =>
    cases fl with
    | ret v =>
      obtain ⟨x, H', h1, h2, un, ok, rv, u, ys, ex, hH, hy, hn, q⟩ := (show CE outer P w _ s _ v s' from hq)
      refine ⟨x, upd H' u (UrnO u p), h1, h2, ?_, ?_, rv, q⟩
      · have nu : ∀ b o, H' b = some o → o ≠ .lst ys → upd H' u (UrnO u p) b = some o := fun b o q z => by
          rw [upd_ne (ne_of q hH z)]
          exact q
        refine ⟨un.keep, un.slot, fun b o a c d => ?_, un.there, fun b zs q => ?_, fun b o v q => ?_, fun b ps q => ?_⟩
        · have := un.free b o a c d
          rw [upd_ne (fun z => by rw [z, hH] at this; cases this)]
          exact this
        · exact nu _ _ (un.tups b zs q) (by intro z; cases z)
        · exact nu _ _ (un.frzs b o v q) (by intro z; cases z)
        · obtain ⟨more, q2⟩ := un.tbls b ps q
          exact ⟨more, nu _ _ q2 (by intro z; cases z)⟩
      · exact hok_swap ok hH (fun x z => by cases z) (fun x z => by cases z) (urn_ok hy (ok u _ hH))
    | next => exact False.elim hq
    | brk => exact False.elim hq
    | cont => exact False.elim hq
end

/-! ### built-ins over data -/
def rLen (K : PySem.W.Frag) : List V → Hp → VK → Prop := fun xs H Q => ∃ p ys, xs = [.ref p] ∧ (SqL K H p ys ∨ SqT K H p ys) ∧ Q (.int ys.length) H
def rAbs : List V → Hp → VK → Prop := fun xs H Q => ∃ i, xs = [.int i] ∧ Q (.int (if i < 0 then -i else i)) H
def rMax2 : List V → Hp → VK → Prop := fun xs H Q => ∃ i j, xs = [.int i, .int j] ∧ Q (.int (if j > i then j else i)) H
def rMin2 : List V → Hp → VK → Prop := fun xs H Q => ∃ i j, xs = [.int i, .int j] ∧ Q (.int (if j < i then j else i)) H
def rInt1 : List V → Hp → VK → Prop := fun xs H Q => (∃ i, xs = [.int i] ∧ Q (.int i) H) ∨ ∃ k, xs = [.bl k] ∧ Q (.int (if k then 1 else 0)) H
def rBool1 : List V → Hp → VK → Prop := fun xs H Q => (∃ i, xs = [.int i] ∧ Q (.bl (i != 0)) H) ∨ ∃ k, xs = [.bl k] ∧ Q (.bl k) H
def rTupOf (K : PySem.W.Frag) : List V → Hp → VK → Prop := fun xs H Q => ∃ p ys, xs = [.ref p] ∧ ((SqL K H p ys ∧ ∀ l, H l = none → Q (.ref l) (upd H l (.tup ys))) ∨ (SqT K H p ys ∧ Q (.ref p) H))
def rLstOf (K : PySem.W.Frag) : List V → Hp → VK → Prop := fun xs H Q => ∃ p ys, xs = [.ref p] ∧ (SqL K H p ys ∨ SqT K H p ys) ∧ ∀ l, H l = none → Q (.ref l) (upd H l (.lst ys))
section
variable {X : Cx}
theorem bi_len : CallR X (.builtin "len") (rLen X.K) := call_len_seq
theorem bi_abs : CallR X (.builtin "abs") rAbs := call_abs
theorem bi_max2 (hc : X.calm = true) : CallR X (.builtin "max") rMax2 := call_max2 hc
theorem bi_min2 (hc : X.calm = true) : CallR X (.builtin "min") rMin2 := call_min2 hc
theorem bi_int1 : CallR X (.type "int") rInt1 := call_int1
theorem bi_bool1 : CallR X (.type "bool") rBool1 := call_bool1
theorem bi_tuple : CallR X (.type "tuple") (rTupOf X.K) := call_tuple_of
theorem bi_list : CallR X (.type "list") (rLstOf X.K) := call_list_of
end
section
variable {K : PySem.W.Frag} {α β : Type} {R : Rl α} {S : Rl β} {H : Hp} {Q : VK} {v x : V} {as : List α} {i : Int} {n : Nat} {a : α} {b : β}
theorem rd_lenL {as : List α} (h : RL K R H v as) (q : Q (.int (as.length : Int)) H) : rLen K [v] H Q := by
  obtain ⟨p, vs, rfl, hs, hr, hz⟩ := h
  exact ⟨p, vs, rfl, .inl hs, by rw [hr.len]; exact q⟩
theorem rd_lenT {as : List α} (h : RT K R H v as) (q : Q (.int (as.length : Int)) H) : rLen K [v] H Q := by
  obtain ⟨p, vs, rfl, hs, hr, hz⟩ := h
  exact ⟨p, vs, rfl, .inr hs, by rw [hr.len]; exact q⟩
theorem rd_tupleL [Up R] (h : RL K R H v as) (k : ∀ w H', Same H H' → RT K R H' w as → Q w H') : rTupOf K [v] H Q := by
  obtain ⟨p, vs, rfl, hs, hr, hz⟩ := h
  exact ⟨p, vs, rfl, .inl ⟨hs, fun l hl => k _ _ (Same.new hl) (RT.mk hl hr hz)⟩⟩
theorem rd_listL [Up R] (h : RL K R H v as) (k : ∀ w H', Same H H' → RL K R H' w as → Q w H') : rLstOf K [v] H Q := by
  obtain ⟨p, vs, rfl, hs, hr, hz⟩ := h
  exact ⟨p, vs, rfl, .inl hs, fun l hl => k _ _ (Same.new hl) (RL.mk hl hr hz)⟩
theorem rd_listT [Up R] (h : RT K R H v as) (k : ∀ w H', Same H H' → RL K R H' w as → Q w H') : rLstOf K [v] H Q := by
  obtain ⟨p, vs, rfl, hs, hr, hz⟩ := h
  exact ⟨p, vs, rfl, .inr hs, fun l hl => k _ _ (Same.new hl) (RL.mk hl hr hz)⟩
theorem rd_ixL (h : RL K R H v as) (hi : as[n]? = some a) (k : ∀ w, R H w a → Q w H) (hn : i = (n : Int) := by rfl) : rIxL K v (.int i) H Q := by
  obtain ⟨p, vs, rfl, hs, hr, hz⟩ := h
  obtain ⟨w, hw, rw⟩ := hr.getR hi
  subst hn
  exact ⟨p, vs, _, w, rfl, rfl, hs, atI_nat hw, k w rw⟩
theorem rd_ixT (h : RT K R H v as) (hi : as[n]? = some a) (k : ∀ w, R H w a → Q w H) (hn : i = (n : Int) := by rfl) : rIxT K v (.int i) H Q := by
  obtain ⟨p, vs, rfl, hs, hr, hz⟩ := h
  obtain ⟨w, hw, rw⟩ := hr.getR hi
  subst hn
  exact ⟨p, vs, _, w, rfl, rfl, hs, atI_nat hw, k w rw⟩
theorem rd_fst {ab : α × β} (h : RP K R S H v ab) (k : ∀ w, R H w ab.1 → Q w H) : rIxT K v (.int 0) H Q := by
  obtain ⟨p, x, y, rfl, hs, h1, h2⟩ := h
  exact ⟨p, _, 0, x, rfl, rfl, hs, rfl, k x h1⟩
theorem rd_snd {ab : α × β} (h : RP K R S H v ab) (k : ∀ w, S H w ab.2 → Q w H) : rIxT K v (.int 1) H Q := by
  obtain ⟨p, x, y, rfl, hs, h1, h2⟩ := h
  exact ⟨p, _, 1, y, rfl, rfl, hs, rfl, k y h2⟩
theorem rd_abs (q : Q (.int (i.natAbs : Int)) H) : rAbs [.int i] H Q := ⟨i, rfl, by
  have e : (if i < 0 then -i else i) = (i.natAbs : Int) := by split <;> omega
  rw [e]
  exact q⟩
theorem rd_int (q : Q (.int i) H) : rInt1 [.int i] H Q := .inl ⟨i, rfl, q⟩
theorem rd_intB {k : Bool} (q : Q (.int (if k then 1 else 0)) H) : rInt1 [.bl k] H Q := .inr ⟨k, rfl, q⟩
theorem rd_max2 {j : Int} (q : Q (.int (max i j)) H) : rMax2 [.int i, .int j] H Q := ⟨i, j, rfl, by
  have e : (if j > i then j else i) = max i j := by split <;> omega
  rw [e]
  exact q⟩
theorem rd_min2 {j : Int} (q : Q (.int (min i j)) H) : rMin2 [.int i, .int j] H Q := ⟨i, j, rfl, by
  have e : (if j < i then j else i) = min i j := by split <;> omega
  rw [e]
  exact q⟩
theorem rd_all {bs : List Bool} (h : RL K RB H v bs) (q : Q (.bl (bs.all id)) H) : rAll K [v] H Q := by
  obtain ⟨p, vs, rfl, hs, hr, hz⟩ := h
  rw [hr.of_bls] at hs
  exact ⟨p, bs, rfl, hs, q⟩
theorem rd_any {bs : List Bool} (h : RL K RB H v bs) (q : Q (.bl (bs.any id)) H) : rAny K [v] H Q := by
  obtain ⟨p, vs, rfl, hs, hr, hz⟩ := h
  rw [hr.of_bls] at hs
  exact ⟨p, bs, rfl, hs, q⟩
theorem rd_gcd {j : Int} (q : Q (.int ((Nat.gcd i.natAbs j.natAbs : Nat) : Int)) H) : rGcd [.int i, .int j] H Q := ⟨i, j, rfl, q⟩
end
theorem RP.at {K : PySem.W.Frag} {α β : Type} {R : Rl α} {S : Rl β} {H : Hp} {p : Addr} {x y : V} {a : α} {b : β} (h : H p = some (.tup [x, y])) (h1 : R H x a) (h2 : S H y b) : RP K R S H (.ref p) (a, b) := ⟨p, x, y, rfl, .inl (.inl h), h1, h2⟩
theorem RT.at {K : PySem.W.Frag} {α : Type} {R : Rl α} {H : Hp} {p : Addr} {vs : List V} {as : List α} (h : H p = some (.tup vs)) (hr : RAll R H vs as) (hz : vs.length ≤ sizeLine) : RT K R H (.ref p) as := ⟨p, vs, rfl, .inl (.inl h), hr, hz⟩
theorem RL.at {K : PySem.W.Frag} {α : Type} {R : Rl α} {H : Hp} {p : Addr} {vs : List V} {as : List α} (h : H p = some (.lst vs)) (hr : RAll R H vs as) (hz : vs.length ≤ sizeLine) : RL K R H (.ref p) as := ⟨p, vs, rfl, .inl (.inl h), hr, hz⟩
end Wo
end
section
set_option Elab.async false
set_option linter.all false
set_option maxRecDepth 100000
set_option maxHeartbeats 4000000
/-! Wo, part F: isinstance of anything, floor division, constructors of slotted classes. -/
namespace Wo
open PySem PySem.Spec PyProof.Rows L2

/-- the type of a value -/
def HasTy (K : PySem.W.Frag) (H : Hp) (x : V) (t : Value) : Prop := TyX K H x t ∨ ∃ a C dx vs, x = .ref a ∧ t = .ref C ∧ SlX.Slt H a C dx vs ∧ SlX.SCls K C ∧ SlX.SIsi K C
def rIsiA (K : PySem.W.Frag) : List V → Hp → VK → Prop := fun xs H Q => ∃ (x c : V) (t u : Value) (b : Bool), xs = [x, c] ∧ ClsV c u ∧ HasTy K H x t ∧ PySem.W.kitOne K t u = some b ∧ Q (.bl b) H
theorem isi {X : Cx} : CallR X (.builtin "isinstance") (rIsiA X.K) := by
  intro pins s σ H xs us Q I r h
  obtain ⟨x, c, t, u, b, rfl, k, ty, e, q⟩ := h
  rcases ty with ty | ⟨a, C, dx, vs, rfl, rfl, hs, hc, hi⟩
  · exact call_isi pins s σ H _ us Q I r ⟨x, c, t, u, b, rfl, k, ty, e, q⟩
  · refine SlX.call_isiSl u pins s σ H _ us Q I r ⟨a, C, dx, vs, c, b, rfl, ?_, fun w r => k.eq r, hs, hc, hi, e, q⟩
    cases k with
    | ty n => exact (rfl : Value.type n = Value.type n)
    | own C => exact (rfl : Value.ref C = Value.ref C)
section
variable {K : PySem.W.Frag} {H : Hp} {Q : VK} {v x y : V} {C D : Addr} {f0 f1 : Str} {fi : Addr} {b : Bool} {T : String}
theorem rd_isi {t u : Value} {c : V} (ty : HasTy K H v t) (k : ClsV c u) (e : PySem.W.kitOne K t u = some b) (q : Q (.bl b) H) : rIsiA K [v, c] H Q := ⟨v, c, t, u, b, rfl, k, ty, e, q⟩
theorem HasTy.ob (T : Sl2 K C f0 f1 fi) (h : Ob2 C H v x y) : HasTy K H v (.ref C) := by
  obtain ⟨a, dx, e, s⟩ := h
  exact .inr ⟨a, C, dx, _, e, rfl, s, T.cl, T.si⟩
theorem HasTy.int {i : Int} : HasTy K H (.int i) (.type "int") := .inl (.base (.int i))
theorem HasTy.bool {i : Bool} : HasTy K H (.bl i) (.type "bool") := .inl (.base (.bl i))
theorem HasTy.str {i : Str} : HasTy K H (.str i) (.type "str") := .inl (.base (.str i))
theorem HasTy.none : HasTy K H .non (.type "NoneType") := .inl (.base .non)
end
/-- a // b, the divisor not 0 and of less than 9000 bits -/
def CDivA (_ j : Int) : Prop := j ≠ 0 ∧ j.natAbs.log2 < 9000
theorem op_fdivA {X : Cx} : OpR X (binaryOp .FloorDiv) (rI CDivA fun i j => .int (i.fdiv j)) := opI fun i j _ _ _ _ _ hc q => floordiv_int hc.1 q (.inl (PyProof.noPylong_of_log2 hc.2))
theorem div_of {i j : Int} {b : Nat} (h : j ≠ 0) (hb : j.natAbs < 2 ^ b) (h0 : 0 < b := by decide) (h9 : b ≤ 9000 := by decide) : CDivA i j := ⟨h, Nat.lt_of_lt_of_le (PySem.Flt.log2_lt_of h0 hb) h9⟩
theorem mul_of {i j : Int} {a b : Nat} (ha : i.natAbs < 2 ^ a) (hb : j.natAbs < 2 ^ b) (h0 : 0 < a := by decide) (h1 : 0 < b := by decide) (h : a + b ≤ 1000000 := by decide) : CMulW i j := wide_mul ha hb h0 h1 h
/-- a slotted class whose __init__ stores both values -/
theorem ctor2 {P : Program} {w : World} {K : PySem.W.Frag} {mg : Str → Option Value} {base : Heap} {k : Nat} {x f0 f1 : Str} {C fi : Addr} (hm : mg x = some (.ref C)) (T : Sl2 K C f0 f1 fi) (F : FnR P w K mg base (CXW P w) k fi (sp_init2 C)) :
    Ctor P w K mg base k x (sp2 fun a b H Q _ => ∀ v H', Same H H' → Ob2 C H' v b a → Q v H') := by
  refine ⟨C, fi, _, hm, T.make, F, fun vs H Q E h y dx h1 h2 h3 => ?_⟩
  obtain ⟨a, b, rfl, k⟩ := h
  refine ⟨_, a, b, rfl, y, dx, rfl, h3, upd_same, fun H' hs hk => ⟨rfl, k _ H' (fun c o e => ?_) ⟨y, dx, rfl, hs⟩⟩⟩
  have n1 := ne_of_none e h1
  have n2 := ne_of_none e h2
  exact hk c o (by rw [upd_ne n1, upd_ne n2]; exact e) n1 n2
end Wo
end
section
set_option Elab.async false
set_option linter.all false
set_option maxRecDepth 100000
set_option maxHeartbeats 4000000
/-! Wo, part H: plain facts of ratios. -/
namespace Wo
open PySem
theorem gcd_sw (t b : Int) : b.gcd t = Nat.gcd t.natAbs b.natAbs := by
  rw [Int.gcd_comm]; rfl
theorem gcd_dl (t b : Int) : ((Nat.gcd t.natAbs b.natAbs : Nat) : Int) ∣ t := Int.gcd_dvd_left t b
theorem gcd_dr (t b : Int) : ((Nat.gcd t.natAbs b.natAbs : Nat) : Int) ∣ b := Int.gcd_dvd_right t b
theorem gcd_ps {t b : Int} (h : b ≠ 0) : 0 < Nat.gcd t.natAbs b.natAbs := Nat.gcd_pos_of_pos_right _ (by omega)
theorem gcd_le {t b : Int} (h : b ≠ 0) : Nat.gcd t.natAbs b.natAbs ≤ b.natAbs := Nat.gcd_le_right _ (by omega)
theorem low_num {t b : Int} (hb : 0 < b) : (Rat.divInt t b).num = t.fdiv ((Nat.gcd t.natAbs b.natAbs : Nat) : Int) := by
  rw [Rat.num_divInt, gcd_sw, Int.fdiv_eq_ediv_of_dvd (gcd_dl t b), Int.sign_eq_one_of_pos hb, Int.one_mul]
theorem low_numN {t b : Int} (hb : b < 0) : (Rat.divInt t b).num = t.fdiv (-((Nat.gcd t.natAbs b.natAbs : Nat) : Int)) := by
  have hg := gcd_ps (t := t) (b := b) (by omega)
  rw [Rat.num_divInt, gcd_sw, Int.fdiv_neg (by omega), if_pos (gcd_dl t b), Int.fdiv_eq_ediv_of_dvd (gcd_dl t b), Int.sign_eq_neg_one_of_neg hb, ← Int.neg_ediv_of_dvd (gcd_dl t b)]
  congr 1
  omega
theorem low_den {t b : Int} (hb : 0 < b) : ((Rat.divInt t b).den : Int) = b.fdiv ((Nat.gcd t.natAbs b.natAbs : Nat) : Int) := by
  rw [Rat.den_divInt, gcd_sw, Int.fdiv_eq_ediv_of_dvd (gcd_dr t b), if_neg (by omega), Int.natCast_ediv]
  congr 1
  omega
theorem low_denN {t b : Int} (hb : b < 0) : ((Rat.divInt t b).den : Int) = b.fdiv (-((Nat.gcd t.natAbs b.natAbs : Nat) : Int)) := by
  have hg := gcd_ps (t := t) (b := b) (by omega)
  rw [Rat.den_divInt, gcd_sw, Int.fdiv_neg (by omega), if_pos (gcd_dr t b), Int.fdiv_eq_ediv_of_dvd (gcd_dr t b), if_neg (by omega), Int.natCast_ediv, ← Int.neg_ediv_of_dvd (gcd_dr t b)]
  congr 1
  omega
theorem gcd_lt2 {t b : Int} {n : Nat} (h : b ≠ 0) (hs : b.natAbs < 2 ^ n) : (((Nat.gcd t.natAbs b.natAbs : Nat) : Int)).natAbs < 2 ^ n ∧ (-((Nat.gcd t.natAbs b.natAbs : Nat) : Int)).natAbs < 2 ^ n ∧ ((Nat.gcd t.natAbs b.natAbs : Nat) : Int) ≠ 0 := by
  have h1 := gcd_le (t := t) h
  have h2 := gcd_ps (t := t) h
  generalize Nat.gcd t.natAbs b.natAbs = g at *
  exact ⟨by omega, by omega, by omega⟩
end Wo
end
section
set_option Elab.async false
set_option linter.all false
set_option maxRecDepth 100000
set_option maxHeartbeats 4000000
/-! Wo, part G: == and != of nested data, both answers; math.lcm; defaults; properties; methods. -/
namespace Wo
open PySem PySem.Spec PyProof.Rows L2
section
open PySem.SeqAt
open AutoSeq1 (wpAny_loadPart')
open MeetsSeq MeetsSeq2 MeetsSeq3 SeqRoads2
variable {prog : Program} {w : World} {A : Around} {R : Result → Shared → Prop}
/-- at each turn the two lists are read anew; the i-th two are equal, or R holds of the answer no -/
def ListB (prog : Program) (w : World) (A : Around) (R : Result → Shared → Prop) (no : Bool) (l b : Addr) (N : Nat) (I : Nat → Shared → Prop) : Prop :=
  ∀ i s, I i s → ∃ (items items2 : Array Value) (n n2 : Nat) (sl sl2 : Array (Option Value)), s.heap.get? l = some { cls := .type "list", data := .seq items n, slots := sl } ∧ s.heap.get? b = some { cls := .type "list", data := .seq items2 n2, slots := sl2 } ∧ items.size = N ∧ items2.size = N ∧
    ∀ (h1 : i < items.size) (h2 : i < items2.size), wpAny (model prog w) A.in1 (eqBool items[i] items2[i]) (fun r s' => if r = true then I (i + 1) s' else (I i s' ∧ R (.ok (.ret (.bool no))) s')) (fun e s' => R (.error e) s') s
/-- code 2: ==; 3: != -/
theorem loopB (code : Nat) (no : Bool) (hc : (code = 2 ∧ no = false) ∨ (code = 3 ∧ no = true)) (l b : Addr) (N : Nat) (I : Nat → Shared → Prop) (hl : ListB prog w A R no l b N I)
    (fin : ∀ s, I N s → R (.ok (.ret (.bool (!no)))) s) (k : Nat) :
    ∀ i : Nat, N - i = k → i ≤ N → ∀ s, I i s →
      wpAny (model prog w) A.in1 (Builtin.«list.__eq__.loop» ⟨[.ref l, .ref b, rawInt i, rawInt code], []⟩) (GQ.FinOf prog w A R) (fun e s' => R (.error e) s') s := by
  induction k with
  | zero =>
    intro i hk hi s h
    obtain ⟨items, items2, n, n2, sl, sl2, hl1, hb1, hs1, hs2, _⟩ := hl _ _ h
    have hi' : i = N := by omega
    have hR : R (.ok (.ret (.bool (!no)))) s := fin s (hi' ▸ h)
    have hi1 : items[((i : Nat) : Int).toNat]? = none := by simp; omega
    have hi2 : items2[((i : Nat) : Int).toNat]? = none := by simp; omega
    obtain ⟨hp, g, d, tk, os⟩ := s
    rcases hc with ⟨rfl, rfl⟩ | ⟨rfl, rfl⟩
    · wp_walk using wpAny_loadPart' hl1, wpAny_loadPart' hb1
      rw [hi1, hi2]
      wp_walk using wpAny_loadPart' hl1, wpAny_loadPart' hb1
      show R (.ok (.ret (.bool (items.size == items2.size)))) _
      rw [hs1, hs2]
      simpa using hR
    · wp_walk using wpAny_loadPart' hl1, wpAny_loadPart' hb1
      rw [hi1, hi2]
      wp_walk using wpAny_loadPart' hl1, wpAny_loadPart' hb1
      show R (.ok (.ret (.bool (items.size != items2.size)))) _
      rw [hs1, hs2]
      simpa using hR
  | succ k ih =>
    intro i hk hi s h
    obtain ⟨items, items2, n, n2, sl, sl2, hl1, hb1, hs1, hs2, turn⟩ := hl _ _ h
    have hlt : i < items.size := by omega
    have hlt2 : i < items2.size := by omega
    have ht := turn hlt hlt2
    have hi1 : items[((i : Nat) : Int).toNat]? = some items[i] := by simp [hlt]
    have hi2 : items2[((i : Nat) : Int).toNat]? = some items2[i] := by simp [hlt2]
    have hc' : ((i : Int) + 1) = ((i + 1 : Nat) : Int) := by omega
    obtain ⟨hp, g, d, tk, os⟩ := s
    rcases hc with ⟨rfl, rfl⟩ | ⟨rfl, rfl⟩
    all_goals
      wp_walk using wpAny_loadPart' hl1, wpAny_loadPart' hb1
      rw [hi1, hi2]
      refine wpAny_bind (wpAny_mono ht (fun r s2 h2 => ?_) fun _ _ x => x)
      cases r with
      | true =>
        have hrec := ih (i + 1) (by omega) (by omega) s2 h2
        obtain ⟨hp2, g2, d2, tk2, os2⟩ := s2
        wp_walk
        rw [hc']
        exact ⟨plainId_quiet plain_eq_loop _, codeAny_builtin entry_eq_loop (by
          rw [Around.under_plainId plain_eq_loop _]
          exact hrec)⟩
      | false =>
        obtain ⟨h2, hR⟩ := h2
        obtain ⟨items3, items4, n3, n4, sl3, sl4, hl3, hb3, hs3, hs4, _⟩ := hl _ _ h2
        have hj1 : items3[((i : Nat) : Int).toNat]? = some (items3[i]'(by omega)) := by (simp <;> omega)
        have hj2 : items4[((i : Nat) : Int).toNat]? = some (items4[i]'(by omega)) := by (simp <;> omega)
        obtain ⟨hp2, g2, d2, tk2, os2⟩ := s2
        wp_walk using wpAny_loadPart' hl3, wpAny_loadPart' hb3
        rw [hj1, hj2]
        wp_walk
        exact hR
theorem list_eqB (l b : Addr) (N : Nat) (I : Nat → Shared → Prop) (hl : ListB prog w A R false l b N I)
    (fin : ∀ s, I N s → R (.ok (.ret (.bool true))) s) {s : Shared} (h : I 0 s) :
    wpAny (model prog w) A.in1 (Builtin.«list.__eq__» ⟨[.ref l, .ref b], []⟩) (GQ.FinOf prog w A R) (fun e s' => R (.error e) s') s := by
  obtain ⟨items, items2, n, n2, sl, sl2, hl1, hb1, hs1, hs2, _⟩ := hl _ _ h
  have hrec := loopB (A := A) (R := R) 2 false (.inl ⟨rfl, rfl⟩) l b N I hl fin _ 0 rfl (Nat.zero_le _) s h
  obtain ⟨hp, g, d, tk, os⟩ := s
  have f3 := AutoSeq1.sub_list_list
  have hne : ¬ (items.size != items2.size) = true := by simp [hs1, hs2]
  wp_walk using wpAny_loadPart' hl1, wpAny_loadPart' hb1
  exact ⟨plainId_quiet plain_eq_loop _, codeAny_builtin entry_eq_loop (by
    rw [Around.under_plainId plain_eq_loop _]
    exact hrec)⟩
theorem list_neB (l b : Addr) (N : Nat) (I : Nat → Shared → Prop) (hl : ListB prog w A R true l b N I)
    (fin : ∀ s, I N s → R (.ok (.ret (.bool false))) s) {s : Shared} (h : I 0 s) :
    wpAny (model prog w) A.in1 (Builtin.«list.__ne__» ⟨[.ref l, .ref b], []⟩) (GQ.FinOf prog w A R) (fun e s' => R (.error e) s') s := by
  obtain ⟨items, items2, n, n2, sl, sl2, hl1, hb1, hs1, hs2, _⟩ := hl _ _ h
  have hrec := loopB (A := A) (R := R) 3 true (.inr ⟨rfl, rfl⟩) l b N I hl fin _ 0 rfl (Nat.zero_le _) s h
  obtain ⟨hp, g, d, tk, os⟩ := s
  have f3 := AutoSeq1.sub_list_list
  have hne : ¬ (items.size != items2.size) = true := by simp [hs1, hs2]
  wp_walk using wpAny_loadPart' hl1, wpAny_loadPart' hb1
  exact ⟨plainId_quiet plain_eq_loop _, codeAny_builtin entry_eq_loop (by
    rw [Around.under_plainId plain_eq_loop _]
    exact hrec)⟩
theorem tuple_eqB (l b : Addr) (items items2 : Array Value) (n n2 : Nat) (dd dd2 : Option Addr) (sl sl2 : Array (Option Value)) (I : Nat → Shared → Prop)
    (turn : ∀ i (h1 : i < items.size) (h2 : i < items2.size) s, I i s → wpAny (model prog w) A.in1 (eqBool items[i] items2[i]) (fun r s' => if r = true then I (i + 1) s' else R (.ok (.ret (.bool false))) s') (fun e s' => R (.error e) s') s)
    (fin : ∀ s, I (min items.size items2.size) s → R (.ok (.ret (.bool (items.size == items2.size)))) s) {s : Shared} (hl1 : s.heap.get? l = some { cls := .type "tuple", dict := dd, data := .seq items n, slots := sl }) (hb1 : s.heap.get? b = some { cls := .type "tuple", dict := dd2, data := .seq items2 n2, slots := sl2 }) (h : I 0 s) :
    wpAny (model prog w) A.in1 (Builtin.«tuple.__eq__» ⟨[.ref l, .ref b], []⟩) (GQ.FinOf prog w A R) (fun e s' => R (.error e) s') s := by
  have f2 := AutoSeq1.sub_tuple_tuple
  have hZ : (items.toList.zip items2.toList).length = min items.size items2.size := by simp
  have h0 := h
  obtain ⟨hp, g, d, tk, os⟩ := s
  wp_walk using wpAny_loadPart' hl1, wpAny_loadPart' hb1, wpAny_forIn_list _ (fun rest b s' => b.1 = none ∧ ∃ i, rest = (items.toList.zip items2.toList).drop i ∧ i ≤ min items.size items2.size ∧ I i s') _
  case turn =>
    rintro ⟨y, x⟩ rest b s' ⟨hb', i, hz, hi, hI⟩
    have hlt : i < (items.toList.zip items2.toList).length := by
      rcases Nat.lt_or_ge i (items.toList.zip items2.toList).length with h' | h'
      · exact h'
      · rw [List.drop_of_length_le h'] at hz; cases hz
    have h1 : i < items.size := by omega
    have h2 : i < items2.size := by omega
    rw [List.drop_eq_getElem_cons hlt] at hz
    injection hz with hyx hrest
    have hy : y = items[i] := by have := congrArg Prod.fst hyx; simpa using this
    have hx : x = items2[i] := by have := congrArg Prod.snd hyx; simpa using this
    subst hy hx
    refine wpAny_bind (wpAny_mono (turn i h1 h2 s' hI) (fun r s2 q2 => ?_) fun _ _ x => x)
    cases r with
    | true =>
      wp_walk
      exact ⟨rfl, i + 1, hrest, by omega, q2⟩
    | false =>
      wp_walk
      exact q2
  case fin =>
    rintro ⟨b1, b2⟩ s' ⟨hb', i, hz, hi, hI⟩
    simp only at hb'
    subst hb'
    have hge : min items.size items2.size ≤ i := by
      rcases Nat.lt_or_ge i (items.toList.zip items2.toList).length with h' | h'
      · rw [List.drop_eq_getElem_cons h'] at hz; cases hz
      · omega
    have hi' : i = min items.size items2.size := by omega
    have hR := fin s' (hi' ▸ hI)
    wp_walk
    simpa [Builtin.Tuple.tupleCompareSizes] using hR
  case h =>
    exact ⟨rfl, 0, rfl, Nat.zero_le _, h0⟩
theorem tuple_neB (l b : Addr) (items items2 : Array Value) (n n2 : Nat) (dd dd2 : Option Addr) (sl sl2 : Array (Option Value)) (I : Nat → Shared → Prop)
    (turn : ∀ i (h1 : i < items.size) (h2 : i < items2.size) s, I i s → wpAny (model prog w) A.in1 (eqBool items[i] items2[i]) (fun r s' => if r = true then I (i + 1) s' else R (.ok (.ret (.bool true))) s') (fun e s' => R (.error e) s') s)
    (fin : ∀ s, I (min items.size items2.size) s → R (.ok (.ret (.bool (items.size != items2.size)))) s) {s : Shared} (hl1 : s.heap.get? l = some { cls := .type "tuple", dict := dd, data := .seq items n, slots := sl }) (hb1 : s.heap.get? b = some { cls := .type "tuple", dict := dd2, data := .seq items2 n2, slots := sl2 }) (h : I 0 s) :
    wpAny (model prog w) A.in1 (Builtin.«tuple.__ne__» ⟨[.ref l, .ref b], []⟩) (GQ.FinOf prog w A R) (fun e s' => R (.error e) s') s := by
  have f2 := AutoSeq1.sub_tuple_tuple
  have hZ : (items.toList.zip items2.toList).length = min items.size items2.size := by simp
  have h0 := h
  obtain ⟨hp, g, d, tk, os⟩ := s
  wp_walk using wpAny_loadPart' hl1, wpAny_loadPart' hb1, wpAny_forIn_list _ (fun rest b s' => b.1 = none ∧ ∃ i, rest = (items.toList.zip items2.toList).drop i ∧ i ≤ min items.size items2.size ∧ I i s') _
  case turn =>
    rintro ⟨y, x⟩ rest b s' ⟨hb', i, hz, hi, hI⟩
    have hlt : i < (items.toList.zip items2.toList).length := by
      rcases Nat.lt_or_ge i (items.toList.zip items2.toList).length with h' | h'
      · exact h'
      · rw [List.drop_of_length_le h'] at hz; cases hz
    have h1 : i < items.size := by omega
    have h2 : i < items2.size := by omega
    rw [List.drop_eq_getElem_cons hlt] at hz
    injection hz with hyx hrest
    have hy : y = items[i] := by have := congrArg Prod.fst hyx; simpa using this
    have hx : x = items2[i] := by have := congrArg Prod.snd hyx; simpa using this
    subst hy hx
    refine wpAny_bind (wpAny_mono (turn i h1 h2 s' hI) (fun r s2 q2 => ?_) fun _ _ x => x)
    cases r with
    | true =>
      wp_walk
      exact ⟨rfl, i + 1, hrest, by omega, q2⟩
    | false =>
      wp_walk
      exact q2
  case fin =>
    rintro ⟨b1, b2⟩ s' ⟨hb', i, hz, hi, hI⟩
    simp only at hb'
    subst hb'
    have hge : min items.size items2.size ≤ i := by
      rcases Nat.lt_or_ge i (items.toList.zip items2.toList).length with h' | h'
      · rw [List.drop_eq_getElem_cons h'] at hz; cases hz
      · omega
    have hi' : i = min items.size items2.size := by omega
    have hR := fin s' (hi' ▸ hI)
    wp_walk
    simpa [Builtin.Tuple.tupleCompareSizes] using hR
  case h =>
    exact ⟨rfl, 0, rfl, Nat.zero_le _, h0⟩
end
end Wo
end
section
set_option Elab.async false
set_option linter.all false
set_option maxRecDepth 100000
set_option maxHeartbeats 4000000
/-! Wo, part I: == and != by what values stand for. -/
namespace Wo
open PySem PySem.Spec PyProof.Rows L2
/-- == inside a builtin answers whether the two data are equal -/
def EqB (X : Cx) (n : Nat) {α : Type} (R : Rl α) : Prop :=
  ∀ (A : Around) (pins : List (Addr × Obj)) (s : Shared) (σ : L2.St) (H : Hp) (x y : V) (u v : Value) (a b : α), Sub X n A → Inv X pins σ H s → RelV x u → RelV y v → R H x a → R H y b →
    wpAny (model X.prog X.w) A (eqBool u v) (fun r s' => (r = true ↔ a = b) ∧ ∃ H', Inv X pins σ H' s' ∧ Same H H') X.xe s
/-- the comparison itself -/
def RcB (X : Cx) (n : Nat) (op : CmpOp) (no : Bool) {α : Type} (R : Rl α) : Prop :=
  ∀ (A : Around) (pins : List (Addr × Obj)) (s : Shared) (σ : L2.St) (H : Hp) (x y : V) (u v : Value) (a b : α), Sub X n A → Inv X pins σ H s → RelV x u → RelV y v → R H x a → R H y b →
    wpAny (model X.prog X.w) A (richCompare op u v) (fun r s' => ∃ k, r = .bool k ∧ (k = (!no) ↔ a = b) ∧ ∃ H', Inv X pins σ H' s' ∧ Same H H') X.xe s
section
open PySem.SeqAt
open AutoSeq1 (wpAny_loadPart')
open MeetsSeq MeetsSeq2 MeetsSeq3 SeqRoads2
variable {prog : Program} {w : World} {A : Around} {R : Result → Shared → Prop}
theorem list_eqL (l b : Addr) (items items2 : Array Value) (n n2 : Nat) (sl sl2 : Array (Option Value)) (hd : (items.size != items2.size) = true) {s : Shared} (hl1 : s.heap.get? l = some { cls := .type "list", data := .seq items n, slots := sl }) (hb1 : s.heap.get? b = some { cls := .type "list", data := .seq items2 n2, slots := sl2 })
    (h : R (.ok (.ret (.bool false))) s) : wpAny (model prog w) A.in1 (Builtin.«list.__eq__» ⟨[.ref l, .ref b], []⟩) (GQ.FinOf prog w A R) (fun e s' => R (.error e) s') s := by
  obtain ⟨hp, g, d, tk, os⟩ := s
  have f3 := AutoSeq1.sub_list_list
  wp_walk using wpAny_loadPart' hl1, wpAny_loadPart' hb1
  exact h
theorem list_neL (l b : Addr) (items items2 : Array Value) (n n2 : Nat) (sl sl2 : Array (Option Value)) (hd : (items.size != items2.size) = true) {s : Shared} (hl1 : s.heap.get? l = some { cls := .type "list", data := .seq items n, slots := sl }) (hb1 : s.heap.get? b = some { cls := .type "list", data := .seq items2 n2, slots := sl2 })
    (h : R (.ok (.ret (.bool true))) s) : wpAny (model prog w) A.in1 (Builtin.«list.__ne__» ⟨[.ref l, .ref b], []⟩) (GQ.FinOf prog w A R) (fun e s' => R (.error e) s') s := by
  obtain ⟨hp, g, d, tk, os⟩ := s
  have f3 := AutoSeq1.sub_list_list
  wp_walk using wpAny_loadPart' hl1, wpAny_loadPart' hb1
  exact h
end
section
variable {X : Cx} {pins : List (Addr × Obj)} {σ : L2.St} {H : Hp} {s : Shared} {a : Addr} {xs : List V}
theorem _root_.L2.Inv.plist (I : Inv X pins σ H s) (h : SqL X.K H a xs) : ∃ (its : List Value) (n : Nat) (sl : Array (Option Value)), Vals xs its ∧ s.heap.get? a = some { cls := .type "list", data := .seq its.toArray n, slots := sl } := by
  obtain ⟨its, r, ⟨o, n, e, h1, h2, h3⟩, _⟩ := I.list h
  obtain ⟨cls, dict, data, sl⟩ := o
  simp only at h1 h2 h3
  subst h1 h2 h3
  exact ⟨its, n, sl, r, e⟩
end
/-- what a value stands for is settled by the heap -/
def FnRl (X : Cx) {α : Type} (R : Rl α) : Prop := ∀ (pins : List (Addr × Obj)) (s : Shared) (σ : L2.St) (H : Hp) (x : V) (a b : α), Inv X pins σ H s → R H x a → R H x b → a = b
section
variable {X : Cx} {n m : Nat} {α β : Type} {R : Rl α} {S : Rl β}
theorem EqB.mono (h : EqB X n R) (hn : n ≤ m) : EqB X m R := fun A pins s σ H x y u v a b sb => h A pins s σ H x y u v a b (sb.mono hn)
theorem fn_int : FnRl X RI := fun _ _ _ _ _ _ _ _ h1 h2 => V.int.inj (h1.symm.trans h2)
theorem fn_bool : FnRl X RB := fun _ _ _ _ _ _ _ _ h1 h2 => V.bl.inj (h1.symm.trans h2)
theorem fn_str : FnRl X RS := fun _ _ _ _ _ _ _ _ h1 h2 => V.str.inj (h1.symm.trans h2)
theorem paired_fn {P : V → α → Prop} (h : ∀ x a b, P x a → P x b → a = b) : ∀ {vs : List V} {as bs : List α}, Paired P vs as → Paired P vs bs → as = bs
  | _, _, _, .nil, .nil => rfl
  | _, _, _, .cons h1 t1, .cons h2 t2 => by rw [h _ _ _ h1 h2, paired_fn h t1 t2]
theorem fn_tup (h : FnRl X R) : FnRl X (RT X.K R) := fun pins s σ H x as bs I h1 h2 => by
  obtain ⟨p, vs, rfl, s1, r1, _⟩ := h1
  obtain ⟨q, ws, e, s2, r2, _⟩ := h2
  cases e
  have e := I.tuple_inj s1 s2
  subst e
  exact paired_fn (fun x a b => h pins s σ H x a b I) r1 r2
theorem fn_lst (h : FnRl X R) : FnRl X (RL X.K R) := fun pins s σ H x as bs I h1 h2 => by
  obtain ⟨p, vs, rfl, s1, r1, _⟩ := h1
  obtain ⟨q, ws, e, s2, r2, _⟩ := h2
  cases e
  have e := I.list_inj s1 s2
  subst e
  exact paired_fn (fun x a b => h pins s σ H x a b I) r1 r2
theorem fn_pair (h : FnRl X R) (h' : FnRl X S) : FnRl X (RP X.K R S) := fun pins s σ H x ⟨a, b⟩ ⟨c, d⟩ I h1 h2 => by
  obtain ⟨p, y, z, rfl, s1, r1, q1⟩ := h1
  obtain ⟨q, y', z', e, s2, r2, q2⟩ := h2
  cases e
  have e := I.tuple_inj s1 s2
  cases e
  exact Prod.ext (h pins s σ H _ _ _ I r1 r2) (h' pins s σ H _ _ _ I q1 q2)
theorem fn_rat {C : Addr} : FnRl X (RQ C) := fun pins s σ H x a b I h1 h2 => by
  obtain ⟨p, dx, rfl, s1⟩ := h1
  obtain ⟨q, dy, e, s2⟩ := h2
  cases e
  obtain ⟨_, sl, _, e1, r1, _⟩ := SlX.slt_at I s1
  obtain ⟨_, sl2, _, e2, r2, _⟩ := SlX.slt_at I s2
  rw [e1] at e2
  cases e2
  obtain ⟨u, hu, ru⟩ := r1 0 _ rfl
  obtain ⟨u', hu', ru'⟩ := r2 0 _ rfl
  obtain ⟨w, hw, rw_⟩ := r1 1 _ rfl
  obtain ⟨w', hw', rw'⟩ := r2 1 _ rfl
  rw [hu] at hu'
  cases hu'
  rw [hw] at hw'
  cases hw'
  have e1 := V.int.inj (ru.inj ru')
  have e2 := V.int.inj (rw_.inj rw')
  exact Rat.ext e2 (by omega)
theorem eqB_flat (hf : ∀ H x a, R H x a → flatV x = true) (he : ∀ H x y a b, R H x a → R H y b → (eqV x y = true ↔ a = b)) : EqB X 0 R := by
  intro A pins s σ H x y u v a b sb I rx ry h1 h2
  exact eqAt_V (A := A) (s := s) rx ry (hf H x a h1) (hf H y b h2) X.prog X.w X.xe _ ⟨he H x y a b h1 h2, H, I, Same.refl H⟩
theorem eqB_int : EqB X 0 RI := eqB_flat (fun H x a h => by rw [show x = _ from h]; rfl) fun H x y a b h1 h2 => by
  rw [show x = _ from h1, show y = _ from h2]
  exact beq_iff_eq
theorem eqB_bool : EqB X 0 RB := eqB_flat (fun H x a h => by rw [show x = _ from h]; rfl) fun H x y a b h1 h2 => by
  rw [show x = _ from h1, show y = _ from h2]
  exact beq_iff_eq
theorem eqB_str : EqB X 0 RS := eqB_flat (fun H x a h => by rw [show x = _ from h]; rfl) fun H x y a b h1 h2 => by
  rw [show x = _ from h1, show y = _ from h2]
  exact beq_iff_eq
theorem eqB_refs (hr : ∀ H x a, R H x a → ∃ p, x = .ref p) (hf : FnRl X R) (h : RcB X n .Eq false R) : EqB X n R := by
  intro A pins s σ H x y u v a b sb I rx ry h1 h2
  obtain ⟨p, rfl⟩ := hr H x a h1
  obtain ⟨q, rfl⟩ := hr H y b h2
  cases rx
  cases ry
  by_cases hab : p = q
  · subst hab
    have e := hf pins s σ H _ _ _ I h1 h2
    exact SeqAt.EqAt.same (A := A) (s := s) (.ref p) X.prog X.w X.xe _ ⟨⟨fun _ => e, fun _ => rfl⟩, H, I, Same.refl H⟩
  · refine GQ.eqBool_refG hab (wpAny_mono (h A pins s σ H (.ref p) (.ref q) _ _ a b sb I rfl rfl h1 h2) (fun r s' z => ?_) fun _ _ x => x)
    obtain ⟨k, e, hk, H', I', e'⟩ := z
    exact ⟨k, e, hk, H', I', e'⟩
/-- one turn of a loop over the items -/
theorem turnB {as bs : List α} {pins : List (Addr × Obj)} {σ : L2.St} {H : Hp} {xs ys : List V} {its its2 : List Value} [Up R] (h : EqB X n R) {A : Around} (sb : Sub X (n + 1) A) (r1 : RAll R H xs as) (r2 : RAll R H ys bs) (r : Vals xs its) (r' : Vals ys its2)
    (i : Nat) (h1 : i < its.toArray.size) (h2 : i < its2.toArray.size) (s' : Shared) (l : ∃ H', Inv X pins σ H' s' ∧ Same H H') :
    wpAny (model X.prog X.w) A.in1 (eqBool its.toArray[i] its2.toArray[i]) (fun r s2 => (r = true ↔ as[i]? = bs[i]?) ∧ ∃ H', Inv X pins σ H' s2 ∧ Same H H') X.xe s' := by
  obtain ⟨H1, I1, e1⟩ := l
  have g1 : its[i]? = some its.toArray[i] := by
    have h1' : i < its.length := by simpa using h1
    rw [List.getElem?_eq_getElem h1'] <;> simp
  have g2 : its2[i]? = some its2.toArray[i] := by
    have h2' : i < its2.length := by simpa using h2
    rw [List.getElem?_eq_getElem h2'] <;> simp
  have k1 : i < xs.length := by rw [r.length]; simpa using h1
  have k2 : i < ys.length := by rw [r'.length]; simpa using h2
  obtain ⟨u, hu, ru⟩ := r.get (List.getElem?_eq_getElem k1)
  obtain ⟨v, hv, rv⟩ := r'.get (List.getElem?_eq_getElem k2)
  rw [g1] at hu
  rw [g2] at hv
  rw [Option.some.inj hu, Option.some.inj hv]
  obtain ⟨a, ha, ra⟩ := r1.get (List.getElem?_eq_getElem k1)
  obtain ⟨b, hb, rb⟩ := r2.get (List.getElem?_eq_getElem k2)
  refine wpAny_mono (h A.in1 pins s' σ H1 _ _ u v a b sb.in1 I1 ru rv (Up.up e1 ra) (Up.up e1 rb)) (fun r s2 q => ?_) fun _ _ x => x
  obtain ⟨hr, H2, I2, e2⟩ := q
  refine ⟨?_, H2, I2, e1.trans e2⟩
  rw [hr, ha, hb]
  exact ⟨fun z => congrArg _ z, fun z => Option.some.inj z⟩
theorem take_succ_eq {as bs : List α} {i : Nat} (h : as.take i = bs.take i) (e : as[i]? = bs[i]?) : as.take (i + 1) = bs.take (i + 1) := by
  rw [List.take_succ, List.take_succ, h, e]
theorem take_min_eq {as bs : List α} (h : as.take (min as.length bs.length) = bs.take (min as.length bs.length)) : as.length = bs.length ↔ as = bs := by
  constructor
  · intro e
    rw [e, Nat.min_self, List.take_of_length_le (by omega), List.take_of_length_le (by omega)] at h
    exact h
  · intro e
    rw [e]
theorem rcB_tup [Up R] (h : EqB X n R) : RcB X (n + 1) .Eq false (RT X.K R) := by
  intro A pins s σ H x y u v as bs sb I rx ry h1 h2
  obtain ⟨p, xs, rfl, sq1, r1, z1⟩ := h1
  obtain ⟨q, ys, rfl, sq2, r2, z2⟩ := h2
  cases rx
  cases ry
  obtain ⟨its, v1, e1, _⟩ := I.tuple sq1
  obtain ⟨its2, v2, e2, _⟩ := I.tuple sq2
  have l1 : its.toArray.size = as.length := by rw [List.size_toArray, ← v1.length, r1.len]
  have l2 : its2.toArray.size = bs.length := by rw [List.size_toArray, ← v2.length, r2.len]
  obtain ⟨⟨cls, dd, data, sl⟩, ho, hc, m1, hd⟩ := id e1
  obtain ⟨⟨cls2, dd2, data2, sl2⟩, ho2, hc2, m2, hd2⟩ := id e2
  simp only at hc hd hc2 hd2
  subst hc hd hc2 hd2
  refine wpAny_richCompare_same_room (op := .Eq) ⟨_, ho, rfl⟩ ⟨_, ho2, rfl⟩ F.slot_tuple_eq (GQ.call_here F.slot_tuple_eq ⟨_, ho, rfl⟩ F.entry_tuple_eq (F.args_tuple_eq_2 _ _) ?_) sb.room.units0
  refine tuple_eqB (R := wants (fun v s' => v ≠ .notImplemented ∧ ∃ k, v = .bool k ∧ (k = (!false) ↔ as = bs) ∧ ∃ H', Inv X pins σ H' s' ∧ Same H H') X.xe) p q its.toArray its2.toArray m1 m2 dd dd2 sl sl2 (fun i s' => as.take i = bs.take i ∧ ∃ H', Inv X pins σ H' s' ∧ Same H H') (fun i k1 k2 s' l => ?_) (fun s' l => ?_) ho ho2 ⟨rfl, H, I, Same.refl H⟩
  · refine wpAny_mono (turnB h sb r1 r2 v1 v2 i k1 k2 s' l.2) (fun r s2 z => ?_) fun _ _ x => x
    obtain ⟨hr, z⟩ := z
    cases r with
    | true => exact ⟨take_succ_eq l.1 (hr.mp rfl), z⟩
    | false =>
      refine ⟨(fun x => nomatch x), false, rfl, ⟨(fun x => nomatch x), fun e => ?_⟩, z⟩
      subst e
      exact absurd (hr.mpr rfl) Bool.false_ne_true
  · refine ⟨(fun x => nomatch x), _, rfl, ?_, l.2⟩
    rw [l1, l2] at l ⊢
    rw [← take_min_eq l.1]
    exact beq_iff_eq
theorem rcB_tupN [Up R] (h : EqB X n R) : RcB X (n + 1) .NotEq true (RT X.K R) := by
  intro A pins s σ H x y u v as bs sb I rx ry h1 h2
  obtain ⟨p, xs, rfl, sq1, r1, z1⟩ := h1
  obtain ⟨q, ys, rfl, sq2, r2, z2⟩ := h2
  cases rx
  cases ry
  obtain ⟨its, v1, e1, _⟩ := I.tuple sq1
  obtain ⟨its2, v2, e2, _⟩ := I.tuple sq2
  have l1 : its.toArray.size = as.length := by rw [List.size_toArray, ← v1.length, r1.len]
  have l2 : its2.toArray.size = bs.length := by rw [List.size_toArray, ← v2.length, r2.len]
  obtain ⟨⟨cls, dd, data, sl⟩, ho, hc, m1, hd⟩ := id e1
  obtain ⟨⟨cls2, dd2, data2, sl2⟩, ho2, hc2, m2, hd2⟩ := id e2
  simp only at hc hd hc2 hd2
  subst hc hd hc2 hd2
  refine wpAny_richCompare_same_room (op := .NotEq) ⟨_, ho, rfl⟩ ⟨_, ho2, rfl⟩ F.slot_tuple_ne (GQ.call_here F.slot_tuple_ne ⟨_, ho, rfl⟩ F.entry_tuple_ne (F.args_tuple_ne_2 _ _) ?_) sb.room.units0
  refine tuple_neB (R := wants (fun v s' => v ≠ .notImplemented ∧ ∃ k, v = .bool k ∧ (k = (!true) ↔ as = bs) ∧ ∃ H', Inv X pins σ H' s' ∧ Same H H') X.xe) p q its.toArray its2.toArray m1 m2 dd dd2 sl sl2 (fun i s' => as.take i = bs.take i ∧ ∃ H', Inv X pins σ H' s' ∧ Same H H') (fun i k1 k2 s' l => ?_) (fun s' l => ?_) ho ho2 ⟨rfl, H, I, Same.refl H⟩
  · refine wpAny_mono (turnB h sb r1 r2 v1 v2 i k1 k2 s' l.2) (fun r s2 z => ?_) fun _ _ x => x
    obtain ⟨hr, z⟩ := z
    cases r with
    | true => exact ⟨take_succ_eq l.1 (hr.mp rfl), z⟩
    | false =>
      refine ⟨(fun x => nomatch x), true, rfl, ⟨(fun x => nomatch x), fun e => ?_⟩, z⟩
      subst e
      exact absurd (hr.mpr rfl) Bool.false_ne_true
  · refine ⟨(fun x => nomatch x), _, rfl, ?_, l.2⟩
    rw [l1, l2] at l ⊢
    rw [← take_min_eq l.1]
    show ((as.length != bs.length) = false) ↔ _
    exact bne_eq_false_iff_eq

theorem rcB_lst [Up R] (h : EqB X n R) : RcB X (n + 1) .Eq false (RL X.K R) := by
  intro A pins s σ H x y u v as bs sb I rx ry h1 h2
  obtain ⟨p, xs, rfl, sq1, r1, z1⟩ := h1
  obtain ⟨q, ys, rfl, sq2, r2, z2⟩ := h2
  cases rx
  cases ry
  have look : ∀ s' : Shared, (∃ H', Inv X pins σ H' s' ∧ Same H H') → ∃ its its2 m1 m2 sl1 sl2, Vals xs its ∧ Vals ys its2 ∧ s'.heap.get? p = some { cls := .type "list", data := .seq its.toArray m1, slots := sl1 } ∧ s'.heap.get? q = some { cls := .type "list", data := .seq its2.toArray m2, slots := sl2 } := fun s' ⟨H', I', e'⟩ => by
    obtain ⟨its, m1, sl1, v1, e1⟩ := I'.plist (e'.seq sq1)
    obtain ⟨its2, m2, sl2, v2, e2⟩ := I'.plist (e'.seq sq2)
    exact ⟨its, its2, m1, m2, sl1, sl2, v1, v2, e1, e2⟩
  obtain ⟨its0, its02, m01, m02, s01, s02, v01, v02, e01, e02⟩ := look s ⟨H, I, Same.refl H⟩
  have l1 : its0.toArray.size = as.length := by rw [List.size_toArray, ← v01.length, r1.len]
  have l2 : its02.toArray.size = bs.length := by rw [List.size_toArray, ← v02.length, r2.len]
  refine wpAny_richCompare_same_room (op := .Eq) ⟨_, e01, rfl⟩ ⟨_, e02, rfl⟩ F.slot_list_eq (GQ.call_here F.slot_list_eq ⟨_, e01, rfl⟩ F.entry_list_eq (F.args_list_eq_2 _ _) ?_) sb.room.units0
  by_cases hl : as.length = bs.length
  · refine list_eqB (R := wants (fun v s' => v ≠ .notImplemented ∧ ∃ k, v = .bool k ∧ (k = (!false) ↔ as = bs) ∧ ∃ H', Inv X pins σ H' s' ∧ Same H H') X.xe) p q as.length (fun i s' => as.take i = bs.take i ∧ ∃ H', Inv X pins σ H' s' ∧ Same H H') (fun i s' l => ?_) (fun s' l => ?_) ⟨rfl, H, I, Same.refl H⟩
    · obtain ⟨its, its2, m1, m2, sl1, sl2, v1, v2, e1, e2⟩ := look s' l.2
      refine ⟨its.toArray, its2.toArray, m1, m2, sl1, sl2, e1, e2, by rw [List.size_toArray, ← v1.length, r1.len], by rw [List.size_toArray, ← v2.length, r2.len, hl], fun k1 k2 => ?_⟩
      refine wpAny_mono (turnB h sb r1 r2 v1 v2 i k1 k2 s' l.2) (fun r s2 z => ?_) fun _ _ x => x
      obtain ⟨hr, z⟩ := z
      cases r with
      | true => exact ⟨take_succ_eq l.1 (hr.mp rfl), z⟩
      | false =>
        refine ⟨⟨l.1, z⟩, (fun x => nomatch x), false, rfl, ⟨(fun x => nomatch x), fun e => ?_⟩, z⟩
        subst e
        exact absurd (hr.mpr rfl) Bool.false_ne_true
    · refine ⟨(fun x => nomatch x), !false, rfl, ⟨fun _ => ?_, fun _ => rfl⟩, l.2⟩
      have := l.1
      rw [List.take_of_length_le (by omega), List.take_of_length_le (by omega)] at this
      exact this
  · have hd : (its0.toArray.size != its02.toArray.size) = true := by rw [l1, l2]; exact bne_iff_ne.mpr hl
    refine list_eqL p q _ _ m01 m02 s01 s02 hd e01 e02 ⟨(fun x => nomatch x), false, rfl, ⟨fun x => (nomatch x), fun e => ?_⟩, H, I, Same.refl H⟩
    exact absurd (by rw [e]) hl

theorem rcB_lstN [Up R] (h : EqB X n R) : RcB X (n + 1) .NotEq true (RL X.K R) := by
  intro A pins s σ H x y u v as bs sb I rx ry h1 h2
  obtain ⟨p, xs, rfl, sq1, r1, z1⟩ := h1
  obtain ⟨q, ys, rfl, sq2, r2, z2⟩ := h2
  cases rx
  cases ry
  have look : ∀ s' : Shared, (∃ H', Inv X pins σ H' s' ∧ Same H H') → ∃ its its2 m1 m2 sl1 sl2, Vals xs its ∧ Vals ys its2 ∧ s'.heap.get? p = some { cls := .type "list", data := .seq its.toArray m1, slots := sl1 } ∧ s'.heap.get? q = some { cls := .type "list", data := .seq its2.toArray m2, slots := sl2 } := fun s' ⟨H', I', e'⟩ => by
    obtain ⟨its, m1, sl1, v1, e1⟩ := I'.plist (e'.seq sq1)
    obtain ⟨its2, m2, sl2, v2, e2⟩ := I'.plist (e'.seq sq2)
    exact ⟨its, its2, m1, m2, sl1, sl2, v1, v2, e1, e2⟩
  obtain ⟨its0, its02, m01, m02, s01, s02, v01, v02, e01, e02⟩ := look s ⟨H, I, Same.refl H⟩
  have l1 : its0.toArray.size = as.length := by rw [List.size_toArray, ← v01.length, r1.len]
  have l2 : its02.toArray.size = bs.length := by rw [List.size_toArray, ← v02.length, r2.len]
  refine wpAny_richCompare_same_room (op := .NotEq) ⟨_, e01, rfl⟩ ⟨_, e02, rfl⟩ F.slot_list_ne (GQ.call_here F.slot_list_ne ⟨_, e01, rfl⟩ F.entry_list_ne (F.args_list_ne_2 _ _) ?_) sb.room.units0
  by_cases hl : as.length = bs.length
  · refine list_neB (R := wants (fun v s' => v ≠ .notImplemented ∧ ∃ k, v = .bool k ∧ (k = (!true) ↔ as = bs) ∧ ∃ H', Inv X pins σ H' s' ∧ Same H H') X.xe) p q as.length (fun i s' => as.take i = bs.take i ∧ ∃ H', Inv X pins σ H' s' ∧ Same H H') (fun i s' l => ?_) (fun s' l => ?_) ⟨rfl, H, I, Same.refl H⟩
    · obtain ⟨its, its2, m1, m2, sl1, sl2, v1, v2, e1, e2⟩ := look s' l.2
      refine ⟨its.toArray, its2.toArray, m1, m2, sl1, sl2, e1, e2, by rw [List.size_toArray, ← v1.length, r1.len], by rw [List.size_toArray, ← v2.length, r2.len, hl], fun k1 k2 => ?_⟩
      refine wpAny_mono (turnB h sb r1 r2 v1 v2 i k1 k2 s' l.2) (fun r s2 z => ?_) fun _ _ x => x
      obtain ⟨hr, z⟩ := z
      cases r with
      | true => exact ⟨take_succ_eq l.1 (hr.mp rfl), z⟩
      | false =>
        refine ⟨⟨l.1, z⟩, (fun x => nomatch x), true, rfl, ⟨(fun x => nomatch x), fun e => ?_⟩, z⟩
        subst e
        exact absurd (hr.mpr rfl) Bool.false_ne_true
    · refine ⟨(fun x => nomatch x), !true, rfl, ⟨fun _ => ?_, fun _ => rfl⟩, l.2⟩
      have := l.1
      rw [List.take_of_length_le (by omega), List.take_of_length_le (by omega)] at this
      exact this
  · have hd : (its0.toArray.size != its02.toArray.size) = true := by rw [l1, l2]; exact bne_iff_ne.mpr hl
    refine list_neL p q _ _ m01 m02 s01 s02 hd e01 e02 ⟨(fun x => nomatch x), true, rfl, ⟨fun x => (nomatch x), fun e => ?_⟩, H, I, Same.refl H⟩
    exact absurd (by rw [e]) hl

theorem pair_list {K : PySem.W.Frag} {R : Rl α} {H : Hp} {x : V} {a b : α} (h : RP K R R H x (a, b)) : RT K R H x [a, b] := by
  obtain ⟨p, y, z, rfl, s, r1, r2⟩ := h
  exact ⟨p, _, rfl, s, .cons r1 (.cons r2 .nil), by show 2 ≤ sizeLine; decide⟩
theorem eqB_tup [Up R] (hf : FnRl X R) (h : EqB X n R) : EqB X (n + 1) (RT X.K R) := eqB_refs (fun _ _ _ ⟨p, _, e, _⟩ => ⟨p, e⟩) (fn_tup hf) (rcB_tup h)
theorem eqB_lst [Up R] (hf : FnRl X R) (h : EqB X n R) : EqB X (n + 1) (RL X.K R) := eqB_refs (fun _ _ _ ⟨p, _, e, _⟩ => ⟨p, e⟩) (fn_lst hf) (rcB_lst h)
end
end Wo
end
section
set_option Elab.async false
set_option linter.all false
set_option maxRecDepth 100000
set_option maxHeartbeats 4000000
set_option exponentiation.threshold 20000
/-! Wo, part J: comparison of data as expressions; properties; lcm; defaults; star; comprehensions and loops in use. -/
namespace Wo
open PySem PySem.Spec PyProof.Rows L2

/-! ### a class's own == over ratios -/
/-- what the own == of the ratios promises -/
def sp_eqQ (C : Addr) : Sp := sp2 fun x y H Q _ => ∃ p q : Rat, RQ C H x p ∧ RQ C H y q ∧ Q (.bl (decide (p = q))) H
section
variable {X : Cx} {n m : Nat} {α β : Type} {R : Rl α} {S : Rl β} {C g : Addr}
theorem rcB_rat (F : FnR X.prog X.w X.K X.mg X.base (CXW X.prog X.w) n g (sp_eqQ C)) (O : OwnM X.K C "__eq__" g) : RcB X n .Eq false (RQ C) := by
  intro A pins s σ H x y u v a b sb I rx ry h1 h2
  obtain ⟨p, dx, rfl, s1⟩ := id h1
  obtain ⟨q, dy, rfl, s2⟩ := id h2
  cases rx
  cases ry
  obtain ⟨sl, od, _, J, _⟩ := SlX.slt_inst I s1
  obtain ⟨sl', od', _, J', _⟩ := SlX.slt_inst I s2
  obtain ⟨m, hF⟩ := I.fr
  have e0 : Env0 X.prog X.w X.K X.mg X.base A X.stack s H := by
    have e := I.env0
    exact ⟨by rw [sb.fr]; exact e.frames, e.mod, e.bs, e.bsz, e.funs, e.frf, e.hok, e.bare⟩
  refine PySem.W.cmp_K (op := .Eq) (tb := .ref C) sb.room.units0 hF I.ok.mod.kin J J'.type (by simp [PySem.W.notFirst]) O.at_ O.fn ?_
  refine wpAny_mono (wpAny_call (SlX.run_at (A := A) (us := [.ref p, .ref q]) (ws := [.ref p, .ref q]) (Q := fun v H' => v = .bl (decide (a = b)) ∧ H' = H) (E := E0) F sb.room e0 passF I (.cons rfl (.cons rfl .nil)) ⟨_, _, rfl, a, b, h1, h2, rfl, rfl⟩)) (fun w s' z => ?_) fun _ _ x => x
  obtain ⟨z', H', I', rz, ez, eH⟩ := z
  subst ez eH
  cases (show w = Value.bool _ from rz)
  exact ⟨_, rfl, decide_eq_true_iff, H', I', Same.refl _⟩
theorem RcB.mono {op : CmpOp} {no : Bool} (h : RcB X n op no R) (hn : n ≤ m) : RcB X m op no R := fun A pins s σ H x y u v a b sb => h A pins s σ H x y u v a b (sb.mono hn)
theorem eqB_rat (F : FnR X.prog X.w X.K X.mg X.base (CXW X.prog X.w) n g (sp_eqQ C)) (O : OwnM X.K C "__eq__" g) : EqB X n (RQ C) := eqB_refs (fun _ _ _ ⟨p, _, e, _⟩ => ⟨p, e⟩) fn_rat (rcB_rat F O)
end
/-- the frame of a text, whatever body runs -/
structure Lk (P : Program) (w : World) (K : PySem.W.Frag) (mg : Str → Option Value) (base : Heap) (X : Cx) : Prop where
  p : X.prog = P
  w : X.w = w
  k : X.K = K
  m : X.mg = mg
  b : X.base = base
/-- comparisons of such data are known, at n levels -/
def EqC (P : Program) (w : World) (K : PySem.W.Frag) (mg : Str → Option Value) (base : Heap) (n : Nat) {α : Type} (R : Rl α) : Prop := ∀ X : Cx, Lk P w K mg base X → RcB X n .Eq false R
def NeC (P : Program) (w : World) (K : PySem.W.Frag) (mg : Str → Option Value) (base : Heap) (n : Nat) {α : Type} (R : Rl α) : Prop := ∀ X : Cx, Lk P w K mg base X → RcB X n .NotEq true R
def EiC (P : Program) (w : World) (K : PySem.W.Frag) (mg : Str → Option Value) (base : Heap) (n : Nat) {α : Type} (R : Rl α) : Prop := ∀ X : Cx, Lk P w K mg base X → EqB X n R ∧ FnRl X R
/-- x == y, x != y of data -/
def rEqX (P : Program) (w : World) (K : PySem.W.Frag) (mg : Str → Option Value) (base : Heap) (n : Nat) : R2 := fun x y H Q => ∃ (α : Type) (_ : DecidableEq α) (R : Rl α) (a b : α), EqC P w K mg base n R ∧ R H x a ∧ R H y b ∧ ∀ H', Same H H' → Q (.bl (decide (a = b))) H'
def rNeX (P : Program) (w : World) (K : PySem.W.Frag) (mg : Str → Option Value) (base : Heap) (n : Nat) : R2 := fun x y H Q => ∃ (α : Type) (_ : DecidableEq α) (R : Rl α) (a b : α), NeC P w K mg base n R ∧ R H x a ∧ R H y b ∧ ∀ H', Same H H' → Q (.bl (!decide (a = b))) H'
section
variable {X : Cx} {n m : Nat} {α β : Type} {R : Rl α} {S : Rl β} {C g : Addr} (P : Program) (w : World) (K : PySem.W.Frag) (mg : Str → Option Value) (base : Heap)
theorem eqX (hr : Room n X.A) (hl : Lk P w K mg base X := by exact ⟨rfl, rfl, rfl, rfl, rfl⟩) : OpR X (compareOp .Eq) (rEqX P w K mg base n) := by
  intro pins s σ H x y v u Q I rx ry hq
  obtain ⟨α, _, R, a, b, c, h1, h2, q⟩ := hq
  show wpAny (model X.prog X.w) X.A (richCompare .Eq v u) (EP X pins σ Q) X.xe s
  refine wpAny_mono (c X hl X.A pins s σ H x y v u a b ⟨hr, rfl⟩ I rx ry h1 h2) (fun r s' z => ?_) fun _ _ x => x
  obtain ⟨k, rfl, hk, H', I', e⟩ := z
  refine ⟨.bl k, H', I', rfl, ?_⟩
  have ek : k = decide (a = b) := by
    by_cases hab : a = b
    · rw [decide_eq_true hab]
      exact hk.mpr hab
    · rw [decide_eq_false hab]
      exact Bool.eq_false_iff.mpr fun z => hab (hk.mp z)
  rw [ek]
  exact q H' e
theorem neX (hr : Room n X.A) (hl : Lk P w K mg base X := by exact ⟨rfl, rfl, rfl, rfl, rfl⟩) : OpR X (compareOp .NotEq) (rNeX P w K mg base n) := by
  intro pins s σ H x y v u Q I rx ry hq
  obtain ⟨α, _, R, a, b, c, h1, h2, q⟩ := hq
  show wpAny (model X.prog X.w) X.A (richCompare .NotEq v u) (EP X pins σ Q) X.xe s
  refine wpAny_mono (c X hl X.A pins s σ H x y v u a b ⟨hr, rfl⟩ I rx ry h1 h2) (fun r s' z => ?_) fun _ _ x => x
  obtain ⟨k, rfl, hk, H', I', e⟩ := z
  refine ⟨.bl k, H', I', rfl, ?_⟩
  have ek : k = !decide (a = b) := by
    by_cases hab : a = b
    · rw [decide_eq_true hab]
      exact hk.mpr hab
    · rw [decide_eq_false hab]
      cases k with
      | true => rfl
      | false => exact absurd (hk.mp rfl) hab
  rw [ek]
  exact q H' e
end
section
variable {n m : Nat} {α β : Type} {R : Rl α} {S : Rl β} {C g : Addr} {P : Program} {w : World} {K : PySem.W.Frag} {mg : Str → Option Value} {base : Heap}
theorem ei_int : EiC P w K mg base n RI := fun X h => ⟨eqB_int.mono (Nat.zero_le n), fn_int⟩
theorem ei_bool : EiC P w K mg base n RB := fun X h => ⟨eqB_bool.mono (Nat.zero_le n), fn_bool⟩
theorem ei_str : EiC P w K mg base n RS := fun X h => ⟨eqB_str.mono (Nat.zero_le n), fn_str⟩
theorem ei_rat (F : FnR P w K mg base (CXW P w) m g (sp_eqQ C)) (O : OwnM K C "__eq__" g) (h : m ≤ n) : EiC P w K mg base n (RQ C) := fun X l => by
  obtain ⟨rfl, rfl, rfl, rfl, rfl⟩ := l
  exact ⟨(eqB_rat F O).mono h, fn_rat⟩
theorem ec_rat (F : FnR P w K mg base (CXW P w) m g (sp_eqQ C)) (O : OwnM K C "__eq__" g) (h : m ≤ n) : EqC P w K mg base n (RQ C) := fun X l => by
  obtain ⟨rfl, rfl, rfl, rfl, rfl⟩ := l
  exact (rcB_rat F O).mono h
theorem ei_tup [Up R] (h : EiC P w K mg base n R) : EiC P w K mg base (n + 1) (RT K R) := fun X l => by
  obtain rfl := l.k
  exact ⟨eqB_tup (h X l).2 (h X l).1, fn_tup (h X l).2⟩
theorem ei_lst [Up R] (h : EiC P w K mg base n R) : EiC P w K mg base (n + 1) (RL K R) := fun X l => by
  obtain rfl := l.k
  exact ⟨eqB_lst (h X l).2 (h X l).1, fn_lst (h X l).2⟩
theorem ec_tup [Up R] (h : EiC P w K mg base n R) : EqC P w K mg base (n + 1) (RT K R) := fun X l => by
  obtain rfl := l.k
  exact rcB_tup (h X l).1
theorem ec_lst [Up R] (h : EiC P w K mg base n R) : EqC P w K mg base (n + 1) (RL K R) := fun X l => by
  obtain rfl := l.k
  exact rcB_lst (h X l).1
theorem nc_tup [Up R] (h : EiC P w K mg base n R) : NeC P w K mg base (n + 1) (RT K R) := fun X l => by
  obtain rfl := l.k
  exact rcB_tupN (h X l).1
theorem nc_lst [Up R] (h : EiC P w K mg base n R) : NeC P w K mg base (n + 1) (RL K R) := fun X l => by
  obtain rfl := l.k
  exact rcB_lstN (h X l).1
end
section
variable {n : Nat} {α : Type} [DecidableEq α] {R : Rl α} {H : Hp} {Q : VK} {x y : V} {a b : α} {P : Program} {w : World} {K : PySem.W.Frag} {mg : Str → Option Value} {base : Heap}
theorem rd_eqX (c : EqC P w K mg base n R) (h1 : R H x a) (h2 : R H y b) (q : ∀ H', Same H H' → Q (.bl (decide (a = b))) H') : rEqX P w K mg base n x y H Q := ⟨α, inferInstance, R, a, b, c, h1, h2, q⟩
theorem rd_neX (c : NeC P w K mg base n R) (h1 : R H x a) (h2 : R H y b) (q : ∀ H', Same H H' → Q (.bl (!decide (a = b))) H') : rNeX P w K mg base n x y H Q := ⟨α, inferInstance, R, a, b, c, h1, h2, q⟩
end

/-! ### rules that name the frag -/
section
variable (K : PySem.W.Frag) {X : Cx}
theorem kIxT (h : X.K = K := by rfl) : IxR X (rIxT K) := by subst h; exact ix_tup
theorem kIxL (h : X.K = K := by rfl) : IxR X (rIxL K) := by subst h; exact ix_list
theorem kLen (h : X.K = K := by rfl) : CallR X (.builtin "len") (rLen K) := by subst h; exact bi_len
theorem kTuple (h : X.K = K := by rfl) : CallR X (.type "tuple") (rTupOf K) := by subst h; exact bi_tuple
theorem kList (h : X.K = K := by rfl) : CallR X (.type "list") (rLstOf K) := by subst h; exact bi_list
theorem kIsi (h : X.K = K := by rfl) : CallR X (.builtin "isinstance") (rIsiA K) := by subst h; exact isi
theorem kAll (hc : X.calm = true := by rfl) (h : X.K = K := by rfl) : CallR X (.builtin "all") (rAll K) := by subst h; exact cr_all hc
theorem kAny (hc : X.calm = true := by rfl) (h : X.K = K := by rfl) : CallR X (.builtin "any") (rAny K) := by subst h; exact cr_any hc
theorem kSum (hc : X.calm = true := by rfl) (h : X.K = K := by rfl) : CallR X (.builtin "sum") (rSum K) := by subst h; exact cr_sum hc
theorem kCatA (h : X.K = K := by rfl) : OpR X (binaryOp .Add) (rCatA K) := by subst h; exact op_catA
theorem kInSeq (h : X.K = K := by rfl) : OpR X (compareOp .In) (rIn K false) := by subst h; exact op_in_seq
variable {e l : Expr} {ta tl : TE} {tx : TA} {f : Str} {pos p tpos : Pos} {tg : Expr}
theorem kSl (he : PE X e ta) (hb : attributeBase e f X.env (eval e X.env) = eval e X.env := by rfl) (h : X.K = K := by rfl) : PE X (.Attribute e f pos) (SlX.tSl K ta f) := by subst h; exact SlX.pe_sl he hb
theorem kPiL (hl : PE X l tl) (h : X.K = K := by rfl) : PI X tg l (iList K tl) := by subst h; exact pi_list hl
theorem kPiT (hl : PE X l tl) (h : X.K = K := by rfl) : PI X tg l (iTup K tl) := by subst h; exact pi_tup hl
theorem kZip {e e2 : Expr} {elts : List Expr} {kk : Nat} (hg : Gl X "zip") (hm : X.mg "zip" = none) (ha : PA X [e, e2] tx)
    (hs : starEach [e, e2] X.env = (false, eval e X.env) :: starEach [e2] X.env := by rfl) (hpl : (backTo pos (starEach [e2] X.env)).any (·.1) = false := by rfl) (h : X.K = K := by rfl) :
    PI X (.Tuple elts kk tpos) (.Call (.Name "zip" p) [e, e2] [] pos) (iZip K tx) := by subst h; exact pi_zip hg hm ha hs hpl
theorem kTup {es : List Expr} {k : Nat} {t : TGs} {n : Nat} (hc : X.calm = true) (h : PGs X es t)
    (hn : (assignEach es X.env).length = n := by rfl) (hst : (assignEach es X.env).findIdx? (·.1) = none := by rfl) (hK : X.K = K := by rfl) : PG X (.Tuple es k pos) (gTup K n t) := by subst hK; exact pg_tup hc h hn hst
end

/-! ### properties -/
def Prp (P : Program) (w : World) (K : PySem.W.Frag) (mg : Str → Option Value) (base : Heap) (k : Nat) (C : Addr) (f : Str) (sp : Sp) : Prop :=
  ∃ g, PropM K C f g ∧ SlX.SCls K C ∧ FnR P w K mg base (CXW P w) k g sp
section
variable {X : Cx} {k j : Nat} {sp : Sp} {C : Addr} {f : Str} {pos : Pos} {e : Expr} {ta : TE}
theorem pp (c : Prp X.prog X.w X.K X.mg X.base k C f sp) (hr : Room j X.A) (he : PE X e ta) (hk : k + 1 ≤ j := by decide) (hb : attributeBase e f X.env (eval e X.env) = eval e X.env := by rfl) : PE X (.Attribute e f pos) (SlX.tPropSl C sp E0 ta) := by
  obtain ⟨g, ⟨p, h1, h2, h3, h4⟩, hc, F⟩ := c
  exact SlX.pe_propSl he hc h1 h2 h3 h4 F (hr.mono hk) passF' hb
end
theorem rd_prop {C : Addr} {sp : Sp} {E : XK} {ta : TE} {σ : L2.St} {H : Hp} {Q : VK} (q : ta σ H fun x H1 => ∃ a dx vs, x = .ref a ∧ SlX.Slt H1 a C dx vs ∧ sp [.ref a] H1 Q E) : SlX.tPropSl C sp E ta σ H Q := q
theorem rd_propAt {C : Addr} {sp : Sp} {E : XK} {H : Hp} {Q : VK} {v x y : V} (h : Ob2 C H v x y) (q : sp [v] H Q E) : ∃ a dx vs, v = .ref a ∧ SlX.Slt H a C dx vs ∧ sp [.ref a] H Q E := by
  obtain ⟨a, dx, rfl, s⟩ := h
  exact ⟨a, dx, _, rfl, s, q⟩

/-! ### math.lcm -/
def rLcm : List V → Hp → VK → Prop := fun vs H Q => ∃ a b : Int, vs = [.int a, .int b] ∧ (a.natAbs < 2 ^ 9000 ∧ b.natAbs < 2 ^ 9000) ∧ Q (.int ((Nat.lcm a.natAbs b.natAbs : Nat) : Int)) H
theorem lcm_le' (m n : Nat) : m.lcm n ≤ m * n := by
  unfold Nat.lcm
  exact Nat.div_le_self _ _
theorem cr_lcm {X : Cx} : CallR X (.builtin "math.lcm") rLcm := by
  intro pins s σ H vs us Q I r h
  obtain ⟨a, b, rfl, ⟨ha, hb⟩, q⟩ := h
  obtain ⟨t, u, rfl⟩ := Vals.int2 r
  have h1 : (max 1 a.natAbs).log2 ≤ 8999 := PySem.W.mg_log (by show max 1 a.natAbs < 2 ^ 9000; have : 1 < 2 ^ 9000 := Nat.one_lt_two_pow (by decide); omega)
  have h2 : (max a.natAbs b.natAbs).log2 ≤ 8999 := PySem.W.mg_log (by show max a.natAbs b.natAbs < 2 ^ 9000; omega)
  have e : (Nat.lcm 1 a.natAbs).lcm b.natAbs = a.natAbs.lcm b.natAbs := by simp [Nat.lcm]
  have hsz : ((((Nat.lcm 1 a.natAbs).lcm b.natAbs : Nat) : Int)).natAbs.log2 < bitsLine := by
    rw [e, Int.natAbs_natCast]
    have h3 : a.natAbs.lcm b.natAbs < 2 ^ 18000 := Nat.lt_of_le_of_lt (lcm_le' _ _) (by
      rw [show (18000 : Nat) = 9000 + 9000 from rfl, Nat.pow_add]
      exact Nat.mul_lt_mul'' ha hb)
    have h4 : (a.natAbs.lcm b.natAbs).log2 ≤ 17999 := PySem.W.mg_log h3
    exact Nat.lt_of_le_of_lt h4 (by decide)
  refine call_function_meets PySem.W.MGF.kind_lcm PySem.W.MGF.plain_lcm PySem.W.MGF.entry_lcm (PySem.W.MGF.args_lcm _ _) (PySem.W.mg_run_lcm a t b u (by omega) (by omega) hsz).meets ?_
  rw [e]
  exact ⟨.int _, H, I.tok _, ⟨_, rfl⟩, q⟩
theorem rd_lcm {H : Hp} {Q : VK} {i j : Int} (q : Q (.int ((Nat.lcm i.natAbs j.natAbs : Nat) : Int)) H) (h : i.natAbs < 2 ^ 9000 ∧ j.natAbs < 2 ^ 9000) : rLcm [.int i, .int j] H Q := ⟨i, j, rfl, h, q⟩

/-! ### defs with defaults, defs with a star -/
section
variable {P : Program} {w : World} {K : PySem.W.Frag} {mg : Str → Option Value} {base : Heap} {k : Nat} {x name qual : Str} {params : Arguments} {body : List Stmt} {scope : Scope} {f : Addr} {N ps : List Str} {sp : Sp} {dvs : List V}
/-- a def with one default, called with it or without -/
theorem fnR_ofD (F : ∃ fd, FunD K name qual params body scope dvs [] f fd) (S : FnScope N ps scope) (hd : dvs.length = 1)
    (n : Nat) (hn : n + 1 = ps.length)
    (hb1 : ∀ (T : Addr) (kV doc pm : Value) (an : Option Addr) (cdv ct : Value) (us its : List Value), us.length = n → its.length = 1 → ∃ k, bindArgs (PySem.W.fnOf name qual params body scope (.ref T) kV doc pm an cdv ct) ⟨us, []⟩ = seqItems? (.ref T) >>= k ∧ k (some its.toArray) = pure (ps.zip (us ++ its)))
    (hb0 : ∀ (T : Addr) (kV doc pm : Value) (an : Option Addr) (cdv ct : Value) (us its : List Value), us.length = n + 1 → its.length = 1 → ∃ k, bindArgs (PySem.W.fnOf name qual params body scope (.ref T) kV doc pm an cdv ct) ⟨us, []⟩ = seqItems? (.ref T) >>= k ∧ k (some its.toArray) = pure (ps.zip us))
    (len : ∀ vs H Q E, sp vs H Q E → vs.length = ps.length)
    (hbody : ∀ (cdv : Value) (A : Around) (outer : List Env) (s : Shared) (H : Hp) (vs : List V) (Q : VK) (E : XK), Room k (A.deeper (envOfC qual scope s.heap.objs.size f cdv)) → sp vs H Q E →
      ∃ t, PSs (cxOf (CXW P w) P w K mg base N qual scope f cdv A outer s H E) body t ∧ t { nx := fun _ H' => Q .non H', rt := Q } (start N vs) H) : FnR P w K mg base (CXW P w) (k + 1) f (fun vs H Q E => sp vs H Q E ∨ sp (vs ++ dvs) H Q E) := by
  obtain ⟨fd, F⟩ := F
  have G := FunD.ok (P := P) (w := w) (mg := mg) (base := base) (CX := CXW P w) F S len hbody
  have hne : dvs ≠ [] := fun e => by rw [e] at hd; cases hd
  obtain ⟨ds1, v1, b1⟩ := F.binds1 n 0 hne (by rw [hd]; exact hn) (fun T kV doc pm an cdv ct us its hu hi => by
    obtain ⟨k, e1, e2⟩ := hb1 T kV doc pm an cdv ct us its hu (by rw [hi, hd])
    exact ⟨k, e1, by rw [List.drop_zero]; exact e2⟩)
  obtain ⟨ds0, v0, b0⟩ := F.binds1 (n + 1) 1 hne (by rw [hd]; exact hn) (fun T kV doc pm an cdv ct us its hu hi => by
    obtain ⟨k, e1, e2⟩ := hb0 T kV doc pm an cdv ct us its hu (by rw [hi, hd])
    exact ⟨k, e1, by rw [List.drop_of_length_le (by omega), List.append_nil]; exact e2⟩)
  intro A outer s H us vs Q E hr e0 r hs
  rcases hs with hs | hs
  · refine G.raw b0 v0 A outer s H us vs Q E hr e0 r ?_
    show sp (vs ++ List.drop 1 dvs) H Q E
    rw [List.drop_of_length_le (by omega), List.append_nil]
    exact hs
  · refine G.raw b1 v1 A outer s H us vs Q E hr e0 r ?_
    show sp (vs ++ List.drop 0 dvs) H Q E
    rw [List.drop_zero]
    exact hs
/-- def f(*v) -/
theorem cal_star {pv : Str} (g : mg x = some (.ref f)) (F : ∃ fd, FunD K name qual params body scope [] [] f fd) (S : FnScope N ([] ++ [pv]) scope)
    (hb : ∀ (kV doc pm : Value) (an : Option Addr) (cdv ct : Value) (rest : List Value), bindArgs (PySem.W.fnOf name qual params body scope .none kV doc pm an cdv ct) ⟨rest, []⟩ = (newTuple rest >>= fun t => pure [(pv, t)]))
    (hbody : ∀ (cdv : Value) (A : Around) (outer : List Env) (s : Shared) (H : Hp) (vs : List V) (Q : VK) (E : XK), Room k (A.deeper (envOfC qual scope s.heap.objs.size f cdv)) → sp vs H Q E →
      ∃ t, PSs (cxOf (CXW P w) P w K mg base N qual scope f cdv A outer s H E) body t ∧ t { nx := fun _ H' => Q .non H', rt := Q } (start N vs) H) :
    Cal P w K mg base (k + 1) x (fun vs H Q E => vs.length ≤ sizeLine ∧ ∀ p, H p = none → sp [V.ref p] (upd H p (.tup vs)) Q E) := by
  obtain ⟨fd, F⟩ := F
  have kp := F.kp
  obtain ⟨oc, od, dV, kV, doc, pm, an, cdv, ct, osl, rfl, lk, hcd, hD, _⟩ := F.ex
  rcases hD with ⟨_, rfl⟩ | ⟨e, _⟩
  · refine ⟨f, g, kp, (StX.fn_star (ps := []) (pv := pv) (CX := CXW P w) lk hcd S StX.cxUp (fun us rest hu => ?_) (fun A outer s H vs Q E hr hs => hbody cdv A outer s H vs Q E hr hs)).imp fun vs H Q E h => ⟨[], vs, rfl, rfl, h.1, h.2⟩⟩
    obtain rfl := List.eq_nil_of_length_eq_zero hu
    exact hb kV doc pm an cdv ct rest
  · exact absurd rfl e
end
end Wo
end
section
set_option Elab.async false
set_option linter.all false
set_option maxRecDepth 100000
set_option maxHeartbeats 4000000
/-! Wo, part L: comprehensions and loops in use. -/
namespace Wo
open PySem PySem.Spec PyProof.Rows L2
/-- what a comprehension [e for g in J] asks -/
def LcK (J : It) (H1 : Hp) (g : TG) (te : TE) (vs : List Nat) (σ : L2.St) (Q : VK) : Prop :=
  ∀ D, H1 D = none → ∃ W : Nat → Nat → Hp → Prop, (∃ m, W 0 m (upd H1 D (.lst []))) ∧ ∀ i m H, W i m H →
      (J.stop i H ∧ Q (.ref D) H) ∨ (J.go i H ∧ ∃ Nx : Hp → Prop, (∀ H', Nx H' → ∃ m', m' < m ∧ W (i + 1) m' H') ∧ ∀ x H', J.yld i H x H' → g x (wipe σ vs) H' fun σ2 H2 => wipe σ2 vs = wipe σ vs ∧ tYes σ2 H2 fun b H3 =>
        if b = true then (tHid te) σ2 H3 fun y H4 => ∃ acc, H4 D = some (.lst acc) ∧ acc.length < sizeLine ∧ Nx (upd H4 D (.lst (acc ++ [y]))) else Nx H3)
section
variable {K : PySem.W.Frag} {α β γ : Type} {R : Rl α} {S : Rl β} [Up R] [Up S] {J : It} {H1 : Hp} {as : List α} {g : TG} {te : TE} {vs : List Nat} {σ : L2.St} {Q : VK} {x : V}
theorem lcK_map (W : Wk J H1 R as) (hz : as.length ≤ sizeLine) (f : α → β)
    (hb : ∀ a G x, a ∈ as → Same H1 G → R G x a → ∃ σ2, GOk g x (wipe σ vs) G σ2 ∧ wipe σ2 vs = wipe σ vs ∧ ∀ Kt : VK, (∀ y G', Same G G' → S G' y (f a) → Kt y G') → te σ2 G Kt)
    (hd : ∀ v H', Same H1 H' → RL K S H' v (as.map f) → Q v H') : LcK J H1 g te vs σ Q := by
  intro D hD
  refine lc_map (K := K) (S := S) W hz (fun _ a => f a) (Qd := fun D H => Q (.ref D) H) (fun i a G x ha s rx => hb a G x (List.mem_of_getElem? ha) s rx) (fun D H' s r => hd _ _ s ?_) D hD
  rw [List.mapIdx_eq_zipIdx_map] at r
  have e : List.map (fun x : α × Nat => f x.1) as.zipIdx = as.map f := by
    rw [show (fun x : α × Nat => f x.1) = f ∘ Prod.fst from rfl, ← List.map_map, List.zipIdx_map_fst]
  rw [e] at r
  exact r
/-- over a name -/
theorem lcK_name {i : Nat} (W : Wk J H1 R as) (hz : as.length ≤ sizeLine) (f : α → β)
    (hd : ∀ v H', Same H1 H' → RL K S H' v (as.map f) → Q v H')
    (hb : ∀ a G x, a ∈ as → Same H1 G → R G x a → ∀ Kt : VK, (∀ y G', Same G G' → S G' y (f a) → Kt y G') → te ((wipe σ vs).set i (some x)) G Kt)
    (hw : ∀ v, wipe ((wipe σ vs).set i (some v)) vs = wipe σ vs := by intro _; rfl) : LcK J H1 (gName i) te vs σ Q :=
  lcK_map W hz f (fun a G x ha s r => ⟨_, gok_name, hw x, hb a G x ha s r⟩) hd
/-- over a pair of names -/
theorem lcK_pair {δ : Type} {T : Rl γ} {U : Rl δ} [Up T] [Up U] {i j : Nat} {as : List (γ × δ)} (W : Wk J H1 (RP K T U) as) (hz : as.length ≤ sizeLine) (f : γ × δ → β)
    (hd : ∀ v H', Same H1 H' → RL K S H' v (as.map f) → Q v H')
    (hb : ∀ a G x y, a ∈ as → Same H1 G → T G x a.1 → U G y a.2 → ∀ Kt : VK, (∀ y G', Same G G' → S G' y (f a) → Kt y G') → te (((wipe σ vs).set i (some x)).set j (some y)) G Kt)
    (hw : ∀ v u, wipe (((wipe σ vs).set i (some v)).set j (some u)) vs = wipe σ vs := by intro _ _; rfl) : LcK J H1 (gTup K 2 (gCons (gName i) (gCons (gName j) gNil))) te vs σ Q :=
  lcK_map W hz f (fun a G x ha s r => by
    obtain ⟨p, y, z, rfl, hs, r1, r2⟩ := r
    exact ⟨_, gok_pair hs gok_name gok_name, hw y z, hb a G y z ha s r1 r2⟩) hd
end
section
variable {K : PySem.W.Frag} {α β : Type} {R : Rl α} {S : Rl β} [Up R] [Up S] {σ : L2.St} {H : Hp} {Q : VK} {g : TG} {te tl : TE} {ta : TA} {vs : List Nat} {as : List α} {bs : List β} {x y : V}
/-! how the comprehension begins -/
theorem rd_lcL (q : tl σ H fun x H1 => ∃ a, x = .ref a ∧ (∃ xs, SqL K H1 a xs) ∧ LcK (Itl K a) H1 g te vs σ Q) : tLc (iList K tl) g tYes (tHid te) vs σ H Q := q
theorem rd_lcT (q : tl σ H fun x H1 => ∃ a, x = .ref a ∧ (∃ xs, SqT K H1 a xs) ∧ LcK (Itt K a) H1 g te vs σ Q) : tLc (iTup K tl) g tYes (tHid te) vs σ H Q := q
theorem rd_lcR1 (q : ta σ H fun us H1 => ∃ j : Int, us = [.int j] ∧ -(2 ^ 62) ≤ j ∧ j < 2 ^ 62 ∧ LcK (Itr 0 j.toNat) H1 g te vs σ Q) : tLc (iRng1 ta) g tYes (tHid te) vs σ H Q := q
theorem rd_lcR2 (q : ta σ H fun us H1 => ∃ i j : Int, us = [.int i, .int j] ∧ (-(2 ^ 62) ≤ i ∧ i < 2 ^ 62 ∧ -(2 ^ 62) ≤ j ∧ j < 2 ^ 62) ∧ LcK (Itr i (j - i).toNat) H1 g te vs σ Q) : tLc (iRng2 ta) g tYes (tHid te) vs σ H Q := q
theorem rd_lcZ (q : ta σ H fun us H1 => ∃ a b xs ys, us = [.ref a, .ref b] ∧ SqL K H1 a xs ∧ SqL K H1 b ys ∧ LcK (Itz K a b) H1 g te vs σ Q) : tLc (iZip K ta) g tYes (tHid te) vs σ H Q := q
/-! what is walked is known: then the comprehension is asked -/
theorem lcL (h : RL K R H x as) (q : ∀ J, Wk J H R as → as.length ≤ sizeLine → LcK J H g te vs σ Q) : ∃ a, x = .ref a ∧ (∃ xs, SqL K H a xs) ∧ LcK (Itl K a) H g te vs σ Q := by
  obtain ⟨p, ws, rfl, s, r, z⟩ := id h
  exact ⟨p, rfl, ⟨ws, s⟩, q _ (wk_list h) (by rw [← r.len]; exact z)⟩
theorem lcT (h : RT K R H x as) (q : ∀ J, Wk J H R as → as.length ≤ sizeLine → LcK J H g te vs σ Q) : ∃ a, x = .ref a ∧ (∃ xs, SqT K H a xs) ∧ LcK (Itt K a) H g te vs σ Q := by
  obtain ⟨p, ws, rfl, s, r, z⟩ := id h
  exact ⟨p, rfl, ⟨ws, s⟩, q _ (wk_tup h) (by rw [← r.len]; exact z)⟩
theorem lcR1 {j : Int} (h2 : j < 10 ^ 6) (q : ∀ J, Wk J H RI (rgI 0 j.toNat) → (rgI 0 j.toNat).length ≤ sizeLine → LcK J H g te vs σ Q) (h1 : 0 ≤ j) (hz : 10 ^ 6 ≤ sizeLine := by decide) : ∃ i : Int, [V.int j] = [.int i] ∧ -(2 ^ 62) ≤ i ∧ i < 2 ^ 62 ∧ LcK (Itr 0 i.toNat) H g te vs σ Q :=
  ⟨j, rfl, by omega, by omega, q _ wk_range (by rw [rgI_len]; omega)⟩
theorem lcZ (h : RL K R H x as) (h' : RL K S H y bs) (q : ∀ J, Wk J H (RP K R S) (as.zip bs) → (as.zip bs).length ≤ sizeLine → LcK J H g te vs σ Q) : ∃ a b xs ys, [x, y] = [.ref a, .ref b] ∧ SqL K H a xs ∧ SqL K H b ys ∧ LcK (Itz K a b) H g te vs σ Q := by
  obtain ⟨p, ws, rfl, s, r, z⟩ := id h
  obtain ⟨p', ws', rfl, s', r', z'⟩ := id h'
  refine ⟨p, p', ws, ws', rfl, s, s', q _ (wk_zip h h') ?_⟩
  have := r.len
  rw [List.length_zip]
  omega
end

/-! ### for loops -/
/-- what a loop over J asks -/
def ForK (J : It) (H1 : Hp) (g : TG) (tb : TS) (D : Ends) (σ : L2.St) : Prop :=
  ∃ W : Nat → Nat → L2.St → Hp → Prop, (∃ m, W 0 m σ H1) ∧ ∀ i m σ H, W i m σ H →
  (J.stop i H ∧ D.nx σ H) ∨ (J.go i H ∧ ∃ N : L2.St → Hp → Prop, (∀ σ' H', N σ' H' → ∃ m', m' < m ∧ W (i + 1) m' σ' H') ∧ ∀ x H', J.yld i H x H' → g x σ H' fun σ2 H2 => tb { D with nx := N, ct := N, bk := D.nx } σ2 H2)
section
variable {K : PySem.W.Frag} {α β : Type} {R : Rl α} {S : Rl β} [Up R] [Up S] {σ : L2.St} {H : Hp} {D : Ends} {g : TG} {tl : TE} {tb : TS} {ta : TA} {as : List α} {bs : List β} {x y : V} {J : It}
theorem forK (W : Wk J H R as) (I : Nat → L2.St → Hp → Prop) (h0 : I 0 σ H) (hs : ∀ i σ' H', I i σ' H' → Same H H')
    (hb : ∀ i σ' H' a x H'', as[i]? = some a → I i σ' H' → Same H' H'' → Same H H'' → R H'' x a → g x σ' H'' fun σ2 H2 => tb { D with nx := I (i + 1), ct := I (i + 1), bk := D.nx } σ2 H2)
    (hd : ∀ σ' H', I as.length σ' H' → D.nx σ' H') : ForK J H g tb D σ := by
  refine ⟨fun i m σ' H' => m = as.length - i ∧ i ≤ as.length ∧ I i σ' H', ⟨as.length, by simp, Nat.zero_le _, h0⟩, ?_⟩
  rintro i m σ' H' ⟨rfl, hi, hI⟩
  have s := hs i σ' H' hI
  by_cases hlt : i < as.length
  · refine .inr ⟨W.go i H' s hlt, I (i + 1), fun σ2 H2 q => ⟨as.length - (i + 1), by omega, rfl, hlt, q⟩, fun x H'' hy => ?_⟩
    obtain ⟨s2, rx⟩ := W.yld i H' x H'' as[i] s (by simp [hlt]) hy
    exact hb i σ' H' as[i] x H'' (by simp [hlt]) hI s2 (s.trans s2) rx
  · have e : i = as.length := by omega
    subst e
    exact .inl ⟨W.stop H' s, hd σ' H' hI⟩
theorem rd_forL (q : tl σ H fun x H1 => ∃ a, x = .ref a ∧ (∃ xs, SqL K H1 a xs) ∧ ForK (Itl K a) H1 g tb D σ) : tFor (iList K tl) g tb D σ H := q
theorem rd_forT (q : tl σ H fun x H1 => ∃ a, x = .ref a ∧ (∃ xs, SqT K H1 a xs) ∧ ForK (Itt K a) H1 g tb D σ) : tFor (iTup K tl) g tb D σ H := q
theorem rd_forR1 (q : ta σ H fun us H1 => ∃ j : Int, us = [.int j] ∧ -(2 ^ 62) ≤ j ∧ j < 2 ^ 62 ∧ ForK (Itr 0 j.toNat) H1 g tb D σ) : tFor (iRng1 ta) g tb D σ H := q
theorem rd_forZ (q : ta σ H fun us H1 => ∃ a b xs ys, us = [.ref a, .ref b] ∧ SqL K H1 a xs ∧ SqL K H1 b ys ∧ ForK (Itz K a b) H1 g tb D σ) : tFor (iZip K ta) g tb D σ H := q
theorem forL (h : RL K R H x as) (q : ∀ J, Wk J H R as → as.length ≤ sizeLine → ForK J H g tb D σ) : ∃ a, x = .ref a ∧ (∃ xs, SqL K H a xs) ∧ ForK (Itl K a) H g tb D σ := by
  obtain ⟨p, ws, rfl, s, r, z⟩ := id h
  exact ⟨p, rfl, ⟨ws, s⟩, q _ (wk_list h) (by rw [← r.len]; exact z)⟩
theorem forT (h : RT K R H x as) (q : ∀ J, Wk J H R as → as.length ≤ sizeLine → ForK J H g tb D σ) : ∃ a, x = .ref a ∧ (∃ xs, SqT K H a xs) ∧ ForK (Itt K a) H g tb D σ := by
  obtain ⟨p, ws, rfl, s, r, z⟩ := id h
  exact ⟨p, rfl, ⟨ws, s⟩, q _ (wk_tup h) (by rw [← r.len]; exact z)⟩
theorem forR1 {j : Int} (h1 : 0 ≤ j) (h2 : j < 2 ^ 62) (q : ∀ J, Wk J H RI (rgI 0 j.toNat) → ForK J H g tb D σ) : ∃ i : Int, [V.int j] = [.int i] ∧ -(2 ^ 62) ≤ i ∧ i < 2 ^ 62 ∧ ForK (Itr 0 i.toNat) H g tb D σ :=
  ⟨j, rfl, by omega, h2, q _ wk_range⟩
theorem forZ (h : RL K R H x as) (h' : RL K S H y bs) (q : ∀ J, Wk J H (RP K R S) (as.zip bs) → (as.zip bs).length ≤ sizeLine → ForK J H g tb D σ) : ∃ a b xs ys, [x, y] = [.ref a, .ref b] ∧ SqL K H a xs ∧ SqL K H b ys ∧ ForK (Itz K a b) H g tb D σ := by
  obtain ⟨p, ws, rfl, s, r, z⟩ := id h
  obtain ⟨p', ws', rfl, s', r', z'⟩ := id h'
  refine ⟨p, p', ws, ws', rfl, s, s', q _ (wk_zip h h') ?_⟩
  have := r.len
  rw [List.length_zip]
  omega
/-- storing a pair into two names -/
theorem rd_gpair {i j : Nat} {P : L2.St → Hp → Prop} {a : α} {b : β} (h : RP K R S H x (a, b)) (k : ∀ y z, R H y a → S H z b → P ((σ.set i (some y)).set j (some z)) H) : gTup K 2 (gCons (gName i) (gCons (gName j) gNil)) x σ H P := by
  obtain ⟨p, y, z, rfl, s, r1, r2⟩ := h
  exact ⟨p, [y, z], rfl, s, rfl, y, [z], rfl, z, [], rfl, rfl, k y z r1 r2⟩
/-- a name, and a pair of names -/
theorem rd_gpair3 {γ : Type} {T : Rl γ} {i j l : Nat} {P : L2.St → Hp → Prop} {a : α} {b : β} {c : γ} (h : RP K R (RP K S T) H x (a, (b, c))) (k : ∀ y z u, R H y a → S H z b → T H u c → P (((σ.set i (some y)).set j (some z)).set l (some u)) H) :
    gTup K 2 (gCons (gName i) (gCons (gTup K 2 (gCons (gName j) (gCons (gName l) gNil))) gNil)) x σ H P := by
  obtain ⟨p, y, z, rfl, s, r1, r2⟩ := h
  obtain ⟨p2, z1, z2, rfl, s2, r3, r4⟩ := r2
  exact ⟨p, [y, .ref p2], rfl, s, rfl, y, [.ref p2], rfl, .ref p2, [], rfl, ⟨p2, [z1, z2], rfl, s2, rfl, z1, [z2], rfl, z2, [], rfl, rfl, rfl, k y z1 z2 r1 r3 r4⟩⟩
end

/-! ### [e for row in rows for one in row] -/
def Lc2K (K : PySem.W.Frag) (J : It) (i j : Nat) (te : TE) (vs vs1 : List Nat) (σ : L2.St) (H1 : Hp) (Q : VK) : Prop := ∀ D, H1 D = none → ∃ W : Nat → Nat → Hp → Prop, (∃ m, W 0 m (upd H1 D (.lst []))) ∧ ∀ n m H, W n m H →
  (J.stop n H ∧ Q (.ref D) H) ∨ (J.go n H ∧ ∃ Nx : Hp → Prop, (∀ H', Nx H' → ∃ m', m' < m ∧ W (n + 1) m' H') ∧ ∀ x H', J.yld n H x H' → gName i x (wipe σ vs) H' fun σ2 H2 => wipe σ2 vs = wipe σ vs ∧ tYes σ2 H2 fun b H3 =>
    if b = true then iTup K (tVar i) σ2 H3 fun J1 H4 => ∃ W1 : Nat → Nat → Hp → Prop, (∃ m, W1 0 m H4) ∧ ∀ n k H, W1 n k H →
      (J1.stop n H ∧ Nx H) ∨ (J1.go n H ∧ ∃ Nx1 : Hp → Prop, (∀ H', Nx1 H' → ∃ k', k' < k ∧ W1 (n + 1) k' H') ∧ ∀ x H', J1.yld n H x H' → gName j x (wipe σ2 vs1) H' fun σ3 H5 => wipe σ3 vs1 = wipe σ2 vs1 ∧ tYes σ3 H5 fun b H6 =>
        if b = true then (tHid te) σ3 H6 fun y H7 => ∃ acc, H7 D = some (.lst acc) ∧ acc.length < sizeLine ∧ Nx1 (upd H7 D (.lst (acc ++ [y]))) else Nx1 H6)
    else Nx H3)
section
variable {K : PySem.W.Frag} {α β : Type} {R : Rl α} {S : Rl β} [Up R] [Up S] {σ : L2.St} {H : Hp} {Q : VK} {te tl : TE} {vs vs1 : List Nat} {as : List (List α)} {x : V}
theorem rd_lc2TT {i j : Nat} (q : tl σ H fun x H1 => ∃ a, x = .ref a ∧ (∃ xs, SqT K H1 a xs) ∧ Lc2K K (Itt K a) i j te vs vs1 σ H1 Q) :
    tLc2 (iTup K tl) (gName i) tYes (iTup K (tVar i)) (gName j) tYes (tHid te) vs vs1 σ H Q := q
theorem lc2TT {i j : Nat} (f : α → β) (h : RT K (RT K R) H x as) (hz : as.flatten.length ≤ sizeLine)
    (hd : ∀ v H', Same H H' → RL K S H' v (as.flatten.map f) → Q v H')
    (hb : ∀ r u v G, r ∈ as → ∀ a ∈ r, Same H G → RT K R G v r → R G u a → ∀ Kt : VK, (∀ y G', Same G G' → S G' y (f a) → Kt y G') → te ((wipe ((wipe σ vs).set i (some v)) vs1).set j (some u)) G Kt)
    (hi : ∀ v, ((wipe σ vs).set i (some v))[i]? = some (some v) := by intro _; rfl)
    (hw : ∀ v, wipe ((wipe σ vs).set i (some v)) vs = wipe σ vs := by intro _; rfl)
    (hw1 : ∀ v u, wipe ((wipe ((wipe σ vs).set i (some v)) vs1).set j (some u)) vs1 = wipe ((wipe σ vs).set i (some v)) vs1 := by intro _ _; rfl) :
    ∃ a, x = .ref a ∧ (∃ xs, SqT K H a xs) ∧ Lc2K K (Itt K a) i j te vs vs1 σ H Q := by
  obtain ⟨p, ws, rfl, sq, r, z⟩ := id h
  have W := wk_tup h
  refine ⟨p, rfl, ⟨ws, sq⟩, fun D hD => ?_⟩
  have fl : ∀ n (a : List α), as[n]? = some a → (as.take (n + 1)).flatten = (as.take n).flatten ++ a := fun n a e => by
    rw [List.take_succ, e]
    simp
  have lt : ∀ n, (as.take n).flatten.length ≤ sizeLine := fun n => by
    have e := congrArg (fun l => l.flatten.length) (List.take_append_drop n as)
    simp only [List.flatten_append, List.length_append] at e
    omega
  refine ⟨fun n m H' => m = as.length - n ∧ n ≤ as.length ∧ ∃ G acc, H' = upd G D (.lst acc) ∧ G D = none ∧ Same H G ∧ RAll S G acc ((as.take n).flatten.map f), ⟨as.length, by simp, Nat.zero_le _, H, [], rfl, hD, Same.refl _, by rw [List.take_zero]; exact .nil⟩, ?_⟩
  rintro n m H' ⟨rfl, hn, G, acc, rfl, hG, s, ra⟩
  by_cases hlt : n < as.length
  · refine .inr ⟨W.go n _ (s.trans (Same.new hG)) hlt, fun H' => ∃ G' acc', H' = upd G' D (.lst acc') ∧ G' D = none ∧ Same H G' ∧ RAll S G' acc' ((as.take (n + 1)).flatten.map f), ?_, ?_⟩
    · rintro H' ⟨G', acc', e, h1, h2, h3⟩
      exact ⟨as.length - (n + 1), by omega, rfl, hlt, G', acc', e, h1, h2, h3⟩
    · intro v H' hy
      obtain ⟨G', s2, hG', eH, rx⟩ := W.yldD n G D _ v H' as[n] s hG (by simp [hlt]) hy
      subst eH
      obtain ⟨p2, ws2, rfl, sq2, r2, z2⟩ := id rx
      have W2 := wk_tup rx
      refine ⟨hw _, tYes_of ?_⟩
      refine ⟨_, hi _, p2, rfl, ⟨ws2, Same.seqT (Same.new hG') sq2⟩, ?_⟩
      refine ⟨fun j k H' => k = as[n].length - j ∧ j ≤ as[n].length ∧ ∃ G2 acc, H' = upd G2 D (.lst acc) ∧ G2 D = none ∧ Same G' G2 ∧ RAll S G2 acc (((as.take n).flatten ++ as[n].take j).map f), ⟨as[n].length, by simp, Nat.zero_le _, G', acc, rfl, hG', Same.refl _, by rw [List.take_zero, List.append_nil]; exact ra.up s2⟩, ?_⟩
      rintro j k H'' ⟨rfl, hj, G2, acc2, rfl, hG2, s3, ra2⟩
      by_cases hjl : j < as[n].length
      · refine .inr ⟨W2.go j _ (s3.trans (Same.new hG2)) hjl, fun H' => ∃ G3 acc', H' = upd G3 D (.lst acc') ∧ G3 D = none ∧ Same G' G3 ∧ RAll S G3 acc' (((as.take n).flatten ++ as[n].take (j + 1)).map f), ?_, ?_⟩
        · rintro H' ⟨G3, acc', e, h1, h2, h3⟩
          exact ⟨as[n].length - (j + 1), by omega, rfl, hjl, G3, acc', e, h1, h2, h3⟩
        · intro u H3 hy2
          obtain ⟨G3, s4, hG3, eH3, ru⟩ := W2.yldD j G2 D _ u H3 as[n][j] s3 hG2 (by simp [hjl]) hy2
          subst eH3
          refine ⟨hw1 _ _, tYes_of ⟨D, acc2, upd_same, ?_⟩⟩
          rw [hid_upd hG3]
          have la : acc2.length < sizeLine := by
            rw [ra2.len, List.length_map, List.length_append, List.length_take]
            have h1 := lt (n + 1)
            rw [fl n as[n] (by simp [hlt]), List.length_append] at h1
            omega
          refine hb as[n] u (.ref p2) G3 (List.getElem_mem hlt) as[n][j] (List.getElem_mem hjl) (s.trans (s2.trans (s3.trans s4))) (Up.up (s3.trans s4) rx) ru _ fun y G4 s5 hy3 hG4 => ?_
          refine ⟨acc2, upd_same, la, G4, acc2 ++ [y], by rw [upd_upd], hG4, (s3.trans s4).trans s5, ?_⟩
          have e : ((as.take n).flatten ++ as[n].take (j + 1)).map f = ((as.take n).flatten ++ as[n].take j).map f ++ [f as[n][j]] := by
            rw [List.take_succ_eq_append_getElem hjl, ← List.append_assoc, List.map_append (l₁ := (as.take n).flatten ++ as[n].take j), List.map_singleton]
          rw [e]
          exact (ra2.up (s4.trans s5)).snoc hy3
      · have e : j = as[n].length := by omega
        subst e
        refine .inl ⟨W2.stop _ (s3.trans (Same.new hG2)), G2, acc2, rfl, hG2, (s.trans s2).trans s3, ?_⟩
        rw [fl n as[n] (by simp [hlt])]
        rw [List.take_of_length_le (Nat.le_refl _)] at ra2
        exact ra2
  · have e : n = as.length := by omega
    subst e
    rw [List.take_of_length_le (Nat.le_refl _)] at ra
    refine .inl ⟨W.stop _ (s.trans (Same.new hG)), hd _ _ (s.trans (Same.new hG)) (RL.mk hG ra ?_)⟩
    rw [ra.len, List.length_map]
    exact hz
end
end Wo
namespace Wo
open PySem PySem.Spec PyProof.Rows L2
section
variable {X : Cx} {x : Str} {pos : Pos} {a : Addr}
/-- a global that holds an object -/
theorem pe_gC (h : X.mg x = some (.ref a)) (hg : Gl X x := by rfl) (hd : (x == ("__debug__" : Str)) = false := by decide) : PE X (.Name x pos) (tC (.ref a)) := pe_glob hg h (show RelV (.ref a) (.ref a) from rfl) hd
end
section
variable {K : PySem.W.Frag} {H : Hp} {Q : VK} {v c : V} {t u : Value}
theorem rd_isiY (ty : HasTy K H v t) (q : Q (.bl true) H) (k : ClsV c u) (e : PySem.W.kitOne K t u = some true := by rfl) : rIsiA K [v, c] H Q := rd_isi ty k e q
theorem rd_isiN (ty : HasTy K H v t) (q : Q (.bl false) H) (k : ClsV c u) (e : PySem.W.kitOne K t u = some false := by rfl) : rIsiA K [v, c] H Q := rd_isi ty k e q
theorem ite_n {A B : Prop} (h : B) : if (!true) = true then A else B := h
theorem ite_y {A B : Prop} (h : A) : if (!false) = true then A else B := h
end
end Wo
namespace Wo
open PySem PySem.Spec PyProof.Rows L2
section
variable {K : PySem.W.Frag} {C fi : Addr} {f0 f1 : Str} {H : Hp} {Q : VK} {v : V} {q : Rat}
theorem rd_top (T : Sl2 K C f0 f1 fi) (h : RQ C H v q) {Q : V → Prop} (k : Q (.int q.num)) : ∃ a C dx p vs i z, v = .ref a ∧ SlX.Slt H a C dx vs ∧ SlX.SCls K C ∧ SlX.Slot1 K C f1 p i ∧ vs[i]? = some (some z) ∧ Q z := by
  obtain ⟨a, dx, e, s⟩ := h
  obtain ⟨p, sp⟩ := T.s1
  exact ⟨a, C, dx, p, _, 1, _, e, s, T.cl, sp, rfl, k⟩
theorem rd_bot (T : Sl2 K C f0 f1 fi) (h : RQ C H v q) {Q : V → Prop} (k : Q (.int (q.den : Int))) : ∃ a C dx p vs i z, v = .ref a ∧ SlX.Slt H a C dx vs ∧ SlX.SCls K C ∧ SlX.Slot1 K C f0 p i ∧ vs[i]? = some (some z) ∧ Q z := by
  obtain ⟨a, dx, e, s⟩ := h
  obtain ⟨p, sp⟩ := T.s0
  exact ⟨a, C, dx, p, _, 0, _, e, s, T.cl, sp, rfl, k⟩
theorem HasTy.rq (T : Sl2 K C f0 f1 fi) (h : RQ C H v q) : HasTy K H v (.ref C) := HasTy.ob T h
/-- an elder instance stays while another's slots are stored -/
theorem rq_slH {y dx e d : Addr} {D : Addr} {fs : List (Str × V)} {vs : List (Option V)} (h : RQ C H v q) (hy : H y = some (.ins D d fs)) (hx : H dx = some (.own e)) : RQ C (SlX.slH H y D dx vs) v q := by
  obtain ⟨a, d', rfl, s⟩ := h
  refine ⟨a, d', rfl, ?_⟩
  rcases s with ⟨h1, h2⟩ | ⟨h1, h2⟩
  · cases h2
  · have n0 : a ≠ y := fun z => by
      rw [z, hy] at h1
      have := Option.some.inj h1
      unfold SlX.SlO at this
      cases this
    have n1 : a ≠ dx := fun z => by
      rw [z, hx] at h1
      have := Option.some.inj h1
      unfold SlX.SlO at this
      cases this
    have n2 : d' ≠ y := fun z => by
      rw [z, hy] at h2; cases h2
    have n3 : d' ≠ dx := fun z => by
      rw [z, hx] at h2; cases h2
    exact .inr ⟨by rw [SlX.slH_ne n0 n1]; exact h1, by rw [SlX.slH_ne n2 n3]; exact h2⟩
end
end Wo
namespace Wo
open PySem PySem.Spec PyProof.Rows L2
theorem HasTy.sqT {K : PySem.W.Frag} {H : Hp} {p : Addr} {xs : List V} (h : SqT K H p xs) : HasTy K H (.ref p) (.type "tuple") := by
  rcases h with (h | ⟨o, h⟩) | ⟨o, its, n, hk, hc, hs, hz, r⟩
  · exact .inl (.base (.tup h))
  · exact .inl (.fTuple h)
  · exact .inl (.kTuple hk hc)
theorem HasTy.rt {K : PySem.W.Frag} {α : Type} {R : Rl α} {H : Hp} {v : V} {as : List α} (h : RT K R H v as) : HasTy K H v (.type "tuple") := by
  obtain ⟨p, vs, rfl, s, _, _⟩ := h
  exact HasTy.sqT s
section
variable {K : PySem.W.Frag} {α β : Type} {R : Rl α} {S : Rl β} [Up R] [Up S] {J : It} {H1 : Hp} {as : List α} {g : TG} {te : TE} {vs : List Nat} {σ : L2.St} {Q : VK} {x : V}
/-- [e for i in xs], of each value only P is known -/
theorem lcK_rel {i0 : Nat} (W : Wk J H1 R as) (hz : as.length ≤ sizeLine) (P : β → Prop)
    (hd : ∀ v H' bs, Same H1 H' → bs.length = as.length → (∀ b ∈ bs, P b) → RL K S H' v bs → Q v H')
    (hb : ∀ a G x, a ∈ as → Same H1 G → R G x a → ∀ Kt : VK, (∀ y G' b, Same G G' → S G' y b → P b → Kt y G') → te ((wipe σ vs).set i0 (some x)) G Kt)
    (hw : ∀ v, wipe ((wipe σ vs).set i0 (some v)) vs = wipe σ vs := by intro _; rfl) : LcK J H1 (gName i0) te vs σ Q := by
  intro D hD
  refine ⟨fun i m H => m = as.length - i ∧ i ≤ as.length ∧ ∃ G acc bs, H = upd G D (.lst acc) ∧ G D = none ∧ Same H1 G ∧ bs.length = i ∧ (∀ b ∈ bs, P b) ∧ RAll S G acc bs, ⟨as.length, by simp, Nat.zero_le _, H1, [], [], rfl, hD, Same.refl _, rfl, (fun b h => by cases h), .nil⟩, ?_⟩
  rintro i m H ⟨rfl, hi, G, acc, bs, rfl, hG, s, hbl, hP, ra⟩
  have hla : acc.length = i := by rw [ra.len, hbl]
  by_cases hlt : i < as.length
  · refine .inr ⟨W.go i _ (s.trans (Same.new hG)) hlt, fun H' => ∃ G' acc' bs', H' = upd G' D (.lst acc') ∧ G' D = none ∧ Same H1 G' ∧ bs'.length = i + 1 ∧ (∀ b ∈ bs', P b) ∧ RAll S G' acc' bs', ?_, ?_⟩
    · rintro H' ⟨G', acc', bs', e, h1, h2, h3, h4, h5⟩
      exact ⟨as.length - (i + 1), by omega, rfl, hlt, G', acc', bs', e, h1, h2, h3, h4, h5⟩
    · intro x H' hy
      obtain ⟨G', s2, hG', eH, rx⟩ := W.yldD i G D _ x H' as[i] s hG (by simp [hlt]) hy
      subst eH
      refine ⟨hw x, tYes_of ⟨D, acc, upd_same, ?_⟩⟩
      rw [hid_upd hG']
      refine hb as[i] G' x (List.getElem_mem hlt) (s.trans s2) rx _ fun y G2 b s3 hy2 hp hG2 => ?_
      refine ⟨acc, upd_same, by omega, G2, acc ++ [y], bs ++ [b], ?_, hG2, (s.trans s2).trans s3, ?_, ?_, (ra.up (s2.trans s3)).snoc hy2⟩
      · rw [upd_upd]
      · rw [List.length_append, hbl]; rfl
      · intro c hc
        rcases List.mem_append.mp hc with hc | hc
        · exact hP c hc
        · obtain rfl := List.mem_singleton.mp hc
          exact hp
  · have e : i = as.length := by omega
    subst e
    exact .inl ⟨W.stop _ (s.trans (Same.new hG)), hd _ _ bs (s.trans (Same.new hG)) hbl hP (RL.mk hG ra (by omega))⟩
theorem wd_dec (as : List (List α)) : True := trivial
end
/-- the width of rows -/
def wd {α : Type} : List (List α) → Nat
  | [] => 0
  | r :: _ => r.length
end Wo
namespace Wo
open PySem PySem.Spec PyProof.Rows L2
section
variable {K : PySem.W.Frag} {H : Hp} {Q : VK} {v : V} {α : Type} {as : List α} {f : α → Bool}
theorem rd_allT (h : RL K RB H v (as.map f)) (hf : ∀ a ∈ as, f a = true) (q : Q (.bl true) H) : rAll K [v] H Q := by
  refine rd_all h ?_
  rw [show (as.map f).all id = true from List.all_eq_true.mpr fun b hb => by obtain ⟨a, ha, rfl⟩ := List.mem_map.mp hb; exact hf a ha]
  exact q
theorem rd_anyF (h : RL K RB H v (as.map f)) (hf : ∀ a ∈ as, f a = false) (q : Q (.bl false) H) : rAny K [v] H Q := by
  refine rd_any h ?_
  rw [show (as.map f).any id = false from List.any_eq_false.mpr fun b hb => by obtain ⟨a, ha, rfl⟩ := List.mem_map.mp hb; rw [hf a ha]; exact Bool.false_ne_true]
  exact q
end
end Wo
namespace Wo
open L2
theorem RT.up' {K : PySem.W.Frag} {α : Type} {R : Rl α} [Up R] {H H' : Hp} {v : V} {as : List α} (h : RT K R H v as) (e : Same H H') : RT K R H' v as := Up.up e h
theorem RL.up' {K : PySem.W.Frag} {α : Type} {R : Rl α} [Up R] {H H' : Hp} {v : V} {as : List α} (h : RL K R H v as) (e : Same H H') : RL K R H' v as := Up.up e h
end Wo
namespace Wo
open PySem PySem.Spec PyProof.Rows L2
theorem rd_rep {H : Hp} {Q : VK} {p : Addr} {x : V} {n : Nat} (h : H p = some (.lst [x])) (hn : n ≤ 1000) (k : ∀ q H', Same H H' → H' q = some (.lst (List.replicate n x)) → Q (.ref q) H') : rRep (.ref p) (.int (n : Int)) H Q := by
  refine ⟨p, n, [x], rfl, rfl, h, by omega, by omega, ?_, fun q hq => ?_⟩
  · rw [Int.toNat_natCast, List.length_singleton, Nat.one_mul]
    exact Nat.le_trans hn (by decide)
  · rw [Int.toNat_natCast]
    have e : (List.replicate n [x]).flatten = List.replicate n x := by simp
    rw [e]
    exact k q _ (Same.new hq) upd_same
theorem RAll.repl {α : Type} {R : Rl α} {H : Hp} {x : V} {a : α} (h : R H x a) : ∀ n, RAll R H (List.replicate n x) (List.replicate n a)
  | 0 => .nil
  | n + 1 => .cons h (RAll.repl h n)
theorem RL.repl {K : PySem.W.Frag} {α : Type} {R : Rl α} {H : Hp} {p : Addr} {x : V} {a : α} {n : Nat} (e : H p = some (.lst (List.replicate n x))) (h : R H x a) (hn : n ≤ 1000) : RL K R H (.ref p) (List.replicate n a) :=
  RL.at e (RAll.repl h n) (by rw [List.length_replicate]; exact Nat.le_trans hn (by decide))
end Wo
namespace Wo
open PySem PySem.Spec PyProof.Rows L2
/-- i ** j of a wide base -/
def CPowW (i j : Int) : Prop := 0 ≤ j ∧ j ≤ 1000 ∧ i.natAbs.log2 < 10000
theorem op_powW {X : Cx} : OpR X (binaryOp .Pow) (rI CPowW fun i j => .int (i ^ j.toNat)) := opI fun i j _ _ _ _ _ hc q => by
  obtain ⟨h1, h2, h3⟩ := hc
  refine pow_int h1 ?_ q
  have b : Builtin.Int.intBits i ≤ i.natAbs.log2 + 1 := by
    unfold Builtin.Int.intBits
    split <;> omega
  have b2 : (Builtin.Int.intBits i : Int) ≤ 10000 := by omega
  have b3 : (Builtin.Int.intBits i : Int) * j ≤ 10000 * 1000 := Int.mul_le_mul b2 h2 h1 (by omega)
  exact Int.le_trans b3 (by decide)
section
variable {K : PySem.W.Frag} {H : Hp} {Q : VK} {u : Addr} {xs : List V} {n : Nat} {v : V} {i : Int}
theorem rd_ixC (h : H u = some (.lst xs)) (q : Q v H) (hi : xs[n]? = some v := by rfl) (hn : i = (n : Int) := by rfl) : rIxL K (.ref u) (.int i) H Q := by
  subst hn
  exact ⟨u, xs, _, v, rfl, rfl, .inl (.inl h), atI_nat hi, q⟩
theorem rd_sub {ta tb : TE} {σ : L2.St} {ps : V → V → V → Hp → (Hp → Prop) → Prop} {w : V} {P : L2.St → Hp → Prop} (q : ta σ H fun o H1 => tb σ H1 fun i H2 => ps o i w H2 fun H3 => P σ H3) : gSub ta tb ps w σ H P := q
end
end Wo
end
section
set_option Elab.async false
set_option linter.all false
set_option maxRecDepth 100000
set_option maxHeartbeats 0
namespace LW
open PySem PySem.Spec PyProof.Rows L2 Wo
def top (i : Nat) : Stmt := PySem.Challenge.pw_worthstead_k06_rows_turned_and_multiplie.main.body.getD i (.Pass ⟨0, 0, 0, 0⟩)
abbrev s_is_integer : Stmt := top 10
abbrev s_Lowest___init__ : Stmt := inClass (top 14) 1
abbrev s_lowest_of : Stmt := top 15
abbrev s_Ratio___init__ : Stmt := inClass (top 16) 1
abbrev s_Ratio_top : Stmt := inClass (top 16) 3
abbrev s_Ratio_bottom : Stmt := inClass (top 16) 4
abbrev s_Ratio___add__ : Stmt := inClass (top 16) 7
abbrev s_Ratio___sub__ : Stmt := inClass (top 16) 8
abbrev s_Ratio___mul__ : Stmt := inClass (top 16) 9
abbrev s_Ratio___neg__ : Stmt := inClass (top 16) 10
abbrev s_Ratio___abs__ : Stmt := inClass (top 16) 11
abbrev s_Ratio___bool__ : Stmt := inClass (top 16) 12
abbrev s_Ratio___eq__ : Stmt := inClass (top 16) 13
abbrev s_Ratio___str__ : Stmt := inClass (top 16) 14
abbrev s_told_lowest : Stmt := top 17
abbrev s_ratio_from : Stmt := top 18
abbrev s_is_ratio : Stmt := top 19
abbrev s_is_row : Stmt := top 25
abbrev s_are_rows : Stmt := top 26
abbrev s_width_of : Stmt := top 27
abbrev s_require_rows : Stmt := top 28
abbrev s_has_great : Stmt := top 29
abbrev s_require_small : Stmt := top 30
abbrev s_whole_row : Stmt := top 31
abbrev s_ratio_row : Stmt := top 32
abbrev s_sum_of : Stmt := top 33
abbrev s_turned : Stmt := top 34
abbrev s_multiplied : Stmt := top 35
abbrev s_w_well : Stmt := top 37
abbrev s_w_dip : Stmt := top 38
abbrev s_w_low : Stmt := top 39
abbrev s_w_plus : Stmt := top 40
abbrev s_w_times : Stmt := top 41
abbrev s_w_less : Stmt := top 42
abbrev s_w_mixed : Stmt := top 43
abbrev s_w_ratios : Stmt := top 44
abbrev s_w_told : Stmt := top 45
abbrev s_w_lot : Stmt := top 46
abbrev s_w_turned : Stmt := top 47
abbrev s_w_right : Stmt := top 48
abbrev s_law : Stmt := top 49
def d_is_integer : DefX := ⟨gA "is_integer", "is_integer", "is_integer", defArgs s_is_integer, defBody s_is_integer, defScope s_is_integer, []⟩
def d_Lowest___init__ : DefX := ⟨mA "Lowest" "__init__", "__init__", "Lowest.__init__", defArgs s_Lowest___init__, defBody s_Lowest___init__, defScope s_Lowest___init__, []⟩
def d_lowest_of : DefX := ⟨gA "lowest_of", "lowest_of", "lowest_of", defArgs s_lowest_of, defBody s_lowest_of, defScope s_lowest_of, []⟩
def d_Ratio___init__ : DefX := ⟨mA "Ratio" "__init__", "__init__", "Ratio.__init__", defArgs s_Ratio___init__, defBody s_Ratio___init__, defScope s_Ratio___init__, [.int 1]⟩
def d_Ratio_top : DefX := ⟨rA "property" "Ratio" "top", "top", "Ratio.top", defArgs s_Ratio_top, defBody s_Ratio_top, defScope s_Ratio_top, []⟩
def d_Ratio_bottom : DefX := ⟨rA "property" "Ratio" "bottom", "bottom", "Ratio.bottom", defArgs s_Ratio_bottom, defBody s_Ratio_bottom, defScope s_Ratio_bottom, []⟩
def d_Ratio___add__ : DefX := ⟨mA "Ratio" "__add__", "__add__", "Ratio.__add__", defArgs s_Ratio___add__, defBody s_Ratio___add__, defScope s_Ratio___add__, []⟩
def d_Ratio___sub__ : DefX := ⟨mA "Ratio" "__sub__", "__sub__", "Ratio.__sub__", defArgs s_Ratio___sub__, defBody s_Ratio___sub__, defScope s_Ratio___sub__, []⟩
def d_Ratio___mul__ : DefX := ⟨mA "Ratio" "__mul__", "__mul__", "Ratio.__mul__", defArgs s_Ratio___mul__, defBody s_Ratio___mul__, defScope s_Ratio___mul__, []⟩
def d_Ratio___neg__ : DefX := ⟨mA "Ratio" "__neg__", "__neg__", "Ratio.__neg__", defArgs s_Ratio___neg__, defBody s_Ratio___neg__, defScope s_Ratio___neg__, []⟩
def d_Ratio___abs__ : DefX := ⟨mA "Ratio" "__abs__", "__abs__", "Ratio.__abs__", defArgs s_Ratio___abs__, defBody s_Ratio___abs__, defScope s_Ratio___abs__, []⟩
def d_Ratio___bool__ : DefX := ⟨mA "Ratio" "__bool__", "__bool__", "Ratio.__bool__", defArgs s_Ratio___bool__, defBody s_Ratio___bool__, defScope s_Ratio___bool__, []⟩
def d_Ratio___eq__ : DefX := ⟨mA "Ratio" "__eq__", "__eq__", "Ratio.__eq__", defArgs s_Ratio___eq__, defBody s_Ratio___eq__, defScope s_Ratio___eq__, []⟩
def d_Ratio___str__ : DefX := ⟨mA "Ratio" "__str__", "__str__", "Ratio.__str__", defArgs s_Ratio___str__, defBody s_Ratio___str__, defScope s_Ratio___str__, []⟩
def d_told_lowest : DefX := ⟨gA "told_lowest", "told_lowest", "told_lowest", defArgs s_told_lowest, defBody s_told_lowest, defScope s_told_lowest, []⟩
def d_ratio_from : DefX := ⟨gA "ratio_from", "ratio_from", "ratio_from", defArgs s_ratio_from, defBody s_ratio_from, defScope s_ratio_from, []⟩
def d_is_ratio : DefX := ⟨gA "is_ratio", "is_ratio", "is_ratio", defArgs s_is_ratio, defBody s_is_ratio, defScope s_is_ratio, []⟩
def d_is_row : DefX := ⟨gA "is_row", "is_row", "is_row", defArgs s_is_row, defBody s_is_row, defScope s_is_row, []⟩
def d_are_rows : DefX := ⟨gA "are_rows", "are_rows", "are_rows", defArgs s_are_rows, defBody s_are_rows, defScope s_are_rows, []⟩
def d_width_of : DefX := ⟨gA "width_of", "width_of", "width_of", defArgs s_width_of, defBody s_width_of, defScope s_width_of, []⟩
def d_require_rows : DefX := ⟨gA "require_rows", "require_rows", "require_rows", defArgs s_require_rows, defBody s_require_rows, defScope s_require_rows, []⟩
def d_has_great : DefX := ⟨gA "has_great", "has_great", "has_great", defArgs s_has_great, defBody s_has_great, defScope s_has_great, []⟩
def d_require_small : DefX := ⟨gA "require_small", "require_small", "require_small", defArgs s_require_small, defBody s_require_small, defScope s_require_small, []⟩
def d_whole_row : DefX := ⟨gA "whole_row", "whole_row", "whole_row", defArgs s_whole_row, defBody s_whole_row, defScope s_whole_row, []⟩
def d_ratio_row : DefX := ⟨gA "ratio_row", "ratio_row", "ratio_row", defArgs s_ratio_row, defBody s_ratio_row, defScope s_ratio_row, []⟩
def d_sum_of : DefX := ⟨gA "sum_of", "sum_of", "sum_of", defArgs s_sum_of, defBody s_sum_of, defScope s_sum_of, []⟩
def d_turned : DefX := ⟨gA "turned", "turned", "turned", defArgs s_turned, defBody s_turned, defScope s_turned, []⟩
def d_multiplied : DefX := ⟨gA "multiplied", "multiplied", "multiplied", defArgs s_multiplied, defBody s_multiplied, defScope s_multiplied, []⟩
def d_w_well : DefX := ⟨gA "_law_well", "_law_well", "_law_well", defArgs s_w_well, defBody s_w_well, defScope s_w_well, []⟩
def d_w_dip : DefX := ⟨gA "_law_dip", "_law_dip", "_law_dip", defArgs s_w_dip, defBody s_w_dip, defScope s_w_dip, []⟩
def d_w_low : DefX := ⟨gA "_law_low", "_law_low", "_law_low", defArgs s_w_low, defBody s_w_low, defScope s_w_low, []⟩
def d_w_plus : DefX := ⟨gA "_law_plus", "_law_plus", "_law_plus", defArgs s_w_plus, defBody s_w_plus, defScope s_w_plus, []⟩
def d_w_times : DefX := ⟨gA "_law_times", "_law_times", "_law_times", defArgs s_w_times, defBody s_w_times, defScope s_w_times, []⟩
def d_w_less : DefX := ⟨gA "_law_less", "_law_less", "_law_less", defArgs s_w_less, defBody s_w_less, defScope s_w_less, []⟩
def d_w_mixed : DefX := ⟨gA "_law_mixed", "_law_mixed", "_law_mixed", defArgs s_w_mixed, defBody s_w_mixed, defScope s_w_mixed, []⟩
def d_w_ratios : DefX := ⟨gA "_law_ratios", "_law_ratios", "_law_ratios", defArgs s_w_ratios, defBody s_w_ratios, defScope s_w_ratios, []⟩
def d_w_told : DefX := ⟨gA "_law_told", "_law_told", "_law_told", defArgs s_w_told, defBody s_w_told, defScope s_w_told, []⟩
def d_w_lot : DefX := ⟨gA "_law_lot", "_law_lot", "_law_lot", defArgs s_w_lot, defBody s_w_lot, defScope s_w_lot, []⟩
def d_w_turned : DefX := ⟨gA "_law_turned", "_law_turned", "_law_turned", defArgs s_w_turned, defBody s_w_turned, defScope s_w_turned, []⟩
def d_w_right : DefX := ⟨gA "_law_right", "_law_right", "_law_right", defArgs s_w_right, defBody s_w_right, defScope s_w_right, []⟩
def d_law : DefX := ⟨gA "law", "law", "law", defArgs s_law, defBody s_law, defScope s_law, []⟩
def ds0 : List DefX := [d_is_integer, d_Lowest___init__, d_lowest_of, d_Ratio___init__, d_Ratio_top, d_Ratio_bottom, d_Ratio___add__, d_Ratio___sub__, d_Ratio___mul__, d_Ratio___neg__, d_Ratio___abs__, d_Ratio___bool__, d_Ratio___eq__, d_Ratio___str__, d_told_lowest, d_ratio_from, d_is_ratio, d_is_row, d_are_rows, d_width_of]
def ds1 : List DefX := [d_require_rows, d_has_great, d_require_small, d_whole_row, d_ratio_row, d_sum_of, d_turned, d_multiplied, d_w_well, d_w_dip, d_w_low, d_w_plus, d_w_times, d_w_less, d_w_mixed, d_w_ratios, d_w_told, d_w_lot, d_w_turned, d_w_right]
def ds2 : List DefX := [d_law]
def ds : List DefX := ds0 ++ ds1 ++ ds2
def fs0 : List (PySem.W.Frag → Bool) := [fGlo "is_integer", fGlo "lowest_of", fGlo "told_lowest", fGlo "ratio_from", fGlo "is_ratio", fGlo "is_row", fGlo "are_rows", fGlo "width_of", fGlo "require_rows", fGlo "has_great", fGlo "require_small", fGlo "whole_row", fGlo "ratio_row", fGlo "sum_of", fGlo "turned", fGlo "multiplied", fGlo "_law_well", fGlo "_law_dip", fGlo "_law_low", fGlo "_law_plus"]
def fs1 : List (PySem.W.Frag → Bool) := [fGlo "_law_times", fGlo "_law_less", fGlo "_law_mixed", fGlo "_law_ratios", fGlo "_law_told", fGlo "_law_lot", fGlo "_law_turned", fGlo "_law_right", fGlo "law", fGlo "WorthError", fGlo "InvalidRows", fGlo "InvalidOperation", fGlo "InvalidNumber", fGlo "TooMany", fGlo "Lowest", fGlo "Ratio", fFree "abs", fFree "all", fFree "any", fFree "bool"]
def fs2 : List (PySem.W.Frag → Bool) := [fFree "int", fFree "isinstance", fFree "len", fFree "max", fFree "min", fFree "range", fFree "str", fFree "tuple", fFree "zip", fFree "NotImplemented", fBlt "gcd" "math.gcd", fBlt "lcm" "math.lcm", fInt "GREAT_plain" (10 ^ 60), fInt "MAX_DIGITS" (2000), fInt "FIRST_TOO_GREAT" ((10 ^ 50) ^ 40), fInt "MAX_ROWS" (512), fInt "MOST_LONG" (64), fInt "ENTRY_DIGITS" (20), fInt "GREAT_rows" (10 ^ 20), fSl2 "Lowest" "own_bottom" "own_top"]
def fs3 : List (PySem.W.Frag → Bool) := [fSl2 "Ratio" "own_bottom" "own_top", fKit (fun _ => .type "int") "Lowest" false, fKit (fun _ => .type "str") "Lowest" false, fKit (fun _ => .type "bool") "Lowest" false, fKit (fun _ => .type "NoneType") "Lowest" false, fKit (fun _ => .type "tuple") "Lowest" false, fKit (fun _ => .type "list") "Lowest" false, fKit (fun _ => .type "dict") "Lowest" false, fKit (fun K => .ref (gA "Lowest" K)) "Lowest" true, fKit (fun K => .ref (gA "Ratio" K)) "Lowest" false, fKit (fun _ => .type "int") "Ratio" false, fKit (fun _ => .type "str") "Ratio" false, fKit (fun _ => .type "bool") "Ratio" false, fKit (fun _ => .type "NoneType") "Ratio" false, fKit (fun _ => .type "tuple") "Ratio" false, fKit (fun _ => .type "list") "Ratio" false, fKit (fun _ => .type "dict") "Ratio" false, fKit (fun K => .ref (gA "Lowest" K)) "Ratio" false, fKit (fun K => .ref (gA "Ratio" K)) "Ratio" true, fProp "Ratio" "top"]
def fs4 : List (PySem.W.Frag → Bool) := [fProp "Ratio" "bottom", fOwn "Ratio" "over", fOwn "Ratio" "is_less", fOwn "Ratio" "__add__", fOwn "Ratio" "__sub__", fOwn "Ratio" "__mul__", fOwn "Ratio" "__neg__", fOwn "Ratio" "__abs__", fOwn "Ratio" "__bool__", fOwn "Ratio" "__eq__", fOwn "Ratio" "__str__"]
def fs : List (PySem.W.Frag → Bool) := fs0 ++ fs1 ++ fs2 ++ fs3 ++ fs4
def loose0 : List Str := ["_wall", "__name__", "WorthError", "InvalidRows", "InvalidOperation", "InvalidNumber", "TooMany", "GREAT_plain", "is_integer", "MAX_DIGITS", "FIRST_TOO_GREAT", "Lowest", "lowest_of", "Ratio", "told_lowest", "ratio_from", "is_ratio", "MAX_ROWS", "MOST_LONG", "ENTRY_DIGITS"]
def loose1 : List Str := ["GREAT_rows", "is_row", "are_rows", "width_of", "require_rows", "has_great", "require_small", "whole_row", "ratio_row", "sum_of", "turned", "multiplied", "_law_well", "_law_dip", "_law_low", "_law_plus", "_law_times", "_law_less", "_law_mixed", "_law_ratios"]
def loose2 : List Str := ["_law_told", "_law_lot", "_law_turned", "_law_right"]
def loose : List Str := loose0 ++ loose1 ++ loose2
abbrev R : PySem.W.OpenRow := PySem.W.OpenLaw.row PySem.Challenge.rw_worthstead_k06_rows_turned_and_multiplie
abbrev qv : Program := PySem.W.view R.prog [0, 49]
abbrev hk : PySem.W.Hook := hookX 6 fs ds
def ob (s : PySem.W.SharedT) : AlX := obsXG 6 fs ds (HandSHeadRun.getT s)
theorem ob_eq (s : PySem.W.SharedT) : ob s = hk.obs s.abs := obsXG_eq (HandSHeadRun.getT_eq s)
theorem run (w : World) : HandSHeadRun.RunEqI R qv hk ob 20000 loose w := by
  unfold HandSHeadRun.RunEqI
  kernel_rfl
/-- what the walk asks of the top -/
structure Tx (K : PySem.W.Frag) (mg : Str → Option Value) : Prop where
  G_is_integer : mg "is_integer" = some (.ref (gA "is_integer" K))
  G_lowest_of : mg "lowest_of" = some (.ref (gA "lowest_of" K))
  G_told_lowest : mg "told_lowest" = some (.ref (gA "told_lowest" K))
  G_ratio_from : mg "ratio_from" = some (.ref (gA "ratio_from" K))
  G_is_ratio : mg "is_ratio" = some (.ref (gA "is_ratio" K))
  G_is_row : mg "is_row" = some (.ref (gA "is_row" K))
  G_are_rows : mg "are_rows" = some (.ref (gA "are_rows" K))
  G_width_of : mg "width_of" = some (.ref (gA "width_of" K))
  G_require_rows : mg "require_rows" = some (.ref (gA "require_rows" K))
  G_has_great : mg "has_great" = some (.ref (gA "has_great" K))
  G_require_small : mg "require_small" = some (.ref (gA "require_small" K))
  G_whole_row : mg "whole_row" = some (.ref (gA "whole_row" K))
  G_ratio_row : mg "ratio_row" = some (.ref (gA "ratio_row" K))
  G_sum_of : mg "sum_of" = some (.ref (gA "sum_of" K))
  G_turned : mg "turned" = some (.ref (gA "turned" K))
  G_multiplied : mg "multiplied" = some (.ref (gA "multiplied" K))
  G_w_well : mg "_law_well" = some (.ref (gA "_law_well" K))
  G_w_dip : mg "_law_dip" = some (.ref (gA "_law_dip" K))
  G_w_low : mg "_law_low" = some (.ref (gA "_law_low" K))
  G_w_plus : mg "_law_plus" = some (.ref (gA "_law_plus" K))
  G_w_times : mg "_law_times" = some (.ref (gA "_law_times" K))
  G_w_less : mg "_law_less" = some (.ref (gA "_law_less" K))
  G_w_mixed : mg "_law_mixed" = some (.ref (gA "_law_mixed" K))
  G_w_ratios : mg "_law_ratios" = some (.ref (gA "_law_ratios" K))
  G_w_told : mg "_law_told" = some (.ref (gA "_law_told" K))
  G_w_lot : mg "_law_lot" = some (.ref (gA "_law_lot" K))
  G_w_turned : mg "_law_turned" = some (.ref (gA "_law_turned" K))
  G_w_right : mg "_law_right" = some (.ref (gA "_law_right" K))
  G_law : mg "law" = some (.ref (gA "law" K))
  G_WorthError : mg "WorthError" = some (.ref (gA "WorthError" K))
  G_InvalidRows : mg "InvalidRows" = some (.ref (gA "InvalidRows" K))
  G_InvalidOperation : mg "InvalidOperation" = some (.ref (gA "InvalidOperation" K))
  G_InvalidNumber : mg "InvalidNumber" = some (.ref (gA "InvalidNumber" K))
  G_TooMany : mg "TooMany" = some (.ref (gA "TooMany" K))
  G_Lowest : mg "Lowest" = some (.ref (gA "Lowest" K))
  G_Ratio : mg "Ratio" = some (.ref (gA "Ratio" K))
  N_abs : mg "abs" = none
  N_all : mg "all" = none
  N_any : mg "any" = none
  N_bool : mg "bool" = none
  N_int : mg "int" = none
  N_isinstance : mg "isinstance" = none
  N_len : mg "len" = none
  N_max : mg "max" = none
  N_min : mg "min" = none
  N_range : mg "range" = none
  N_str : mg "str" = none
  N_tuple : mg "tuple" = none
  N_zip : mg "zip" = none
  N_NotImplemented : mg "NotImplemented" = none
  B_gcd : mg "gcd" = some (.builtin "math.gcd")
  B_lcm : mg "lcm" = some (.builtin "math.lcm")
  I_GREAT_plain : ∃ t, mg "GREAT_plain" = some (.int (10 ^ 60) t)
  I_MAX_DIGITS : ∃ t, mg "MAX_DIGITS" = some (.int (2000) t)
  I_FIRST_TOO_GREAT : ∃ t, mg "FIRST_TOO_GREAT" = some (.int ((10 ^ 50) ^ 40) t)
  I_MAX_ROWS : ∃ t, mg "MAX_ROWS" = some (.int (512) t)
  I_MOST_LONG : ∃ t, mg "MOST_LONG" = some (.int (64) t)
  I_ENTRY_DIGITS : ∃ t, mg "ENTRY_DIGITS" = some (.int (20) t)
  I_GREAT_rows : ∃ t, mg "GREAT_rows" = some (.int (10 ^ 20) t)
  C_Lowest : Sl2 K (gA "Lowest" K) "own_bottom" "own_top" (mA "Lowest" "__init__" K)
  C_Ratio : Sl2 K (gA "Ratio" K) "own_bottom" "own_top" (mA "Ratio" "__init__" K)
  K_int_Lowest : PySem.W.kitOne K (.type "int") (.ref (gA "Lowest" K)) = some false
  K_str_Lowest : PySem.W.kitOne K (.type "str") (.ref (gA "Lowest" K)) = some false
  K_bool_Lowest : PySem.W.kitOne K (.type "bool") (.ref (gA "Lowest" K)) = some false
  K_NoneType_Lowest : PySem.W.kitOne K (.type "NoneType") (.ref (gA "Lowest" K)) = some false
  K_tuple_Lowest : PySem.W.kitOne K (.type "tuple") (.ref (gA "Lowest" K)) = some false
  K_list_Lowest : PySem.W.kitOne K (.type "list") (.ref (gA "Lowest" K)) = some false
  K_dict_Lowest : PySem.W.kitOne K (.type "dict") (.ref (gA "Lowest" K)) = some false
  K_Lowest_Lowest : PySem.W.kitOne K (.ref (gA "Lowest" K)) (.ref (gA "Lowest" K)) = some true
  K_Ratio_Lowest : PySem.W.kitOne K (.ref (gA "Ratio" K)) (.ref (gA "Lowest" K)) = some false
  K_int_Ratio : PySem.W.kitOne K (.type "int") (.ref (gA "Ratio" K)) = some false
  K_str_Ratio : PySem.W.kitOne K (.type "str") (.ref (gA "Ratio" K)) = some false
  K_bool_Ratio : PySem.W.kitOne K (.type "bool") (.ref (gA "Ratio" K)) = some false
  K_NoneType_Ratio : PySem.W.kitOne K (.type "NoneType") (.ref (gA "Ratio" K)) = some false
  K_tuple_Ratio : PySem.W.kitOne K (.type "tuple") (.ref (gA "Ratio" K)) = some false
  K_list_Ratio : PySem.W.kitOne K (.type "list") (.ref (gA "Ratio" K)) = some false
  K_dict_Ratio : PySem.W.kitOne K (.type "dict") (.ref (gA "Ratio" K)) = some false
  K_Lowest_Ratio : PySem.W.kitOne K (.ref (gA "Lowest" K)) (.ref (gA "Ratio" K)) = some false
  K_Ratio_Ratio : PySem.W.kitOne K (.ref (gA "Ratio" K)) (.ref (gA "Ratio" K)) = some true
  P_Ratio_top : PropM K (gA "Ratio" K) "top" (rA "property" "Ratio" "top" K)
  P_Ratio_bottom : PropM K (gA "Ratio" K) "bottom" (rA "property" "Ratio" "bottom" K)
  O_Ratio_over : OwnM K (gA "Ratio" K) "over" (mA "Ratio" "over" K)
  O_Ratio_is_less : OwnM K (gA "Ratio" K) "is_less" (mA "Ratio" "is_less" K)
  O_Ratio___add__ : OwnM K (gA "Ratio" K) "__add__" (mA "Ratio" "__add__" K)
  O_Ratio___sub__ : OwnM K (gA "Ratio" K) "__sub__" (mA "Ratio" "__sub__" K)
  O_Ratio___mul__ : OwnM K (gA "Ratio" K) "__mul__" (mA "Ratio" "__mul__" K)
  O_Ratio___neg__ : OwnM K (gA "Ratio" K) "__neg__" (mA "Ratio" "__neg__" K)
  O_Ratio___abs__ : OwnM K (gA "Ratio" K) "__abs__" (mA "Ratio" "__abs__" K)
  O_Ratio___bool__ : OwnM K (gA "Ratio" K) "__bool__" (mA "Ratio" "__bool__" K)
  O_Ratio___eq__ : OwnM K (gA "Ratio" K) "__eq__" (mA "Ratio" "__eq__" K)
  O_Ratio___str__ : OwnM K (gA "Ratio" K) "__str__" (mA "Ratio" "__str__" K)
  D_is_integer : ∃ fd, FunD K "is_integer" "is_integer" (defArgs s_is_integer) (defBody s_is_integer) (defScope s_is_integer) [] [] (gA "is_integer" K) fd
  D_Lowest___init__ : ∃ fd, FunD K "__init__" "Lowest.__init__" (defArgs s_Lowest___init__) (defBody s_Lowest___init__) (defScope s_Lowest___init__) [] [] (mA "Lowest" "__init__" K) fd
  D_lowest_of : ∃ fd, FunD K "lowest_of" "lowest_of" (defArgs s_lowest_of) (defBody s_lowest_of) (defScope s_lowest_of) [] [] (gA "lowest_of" K) fd
  D_Ratio___init__ : ∃ fd, FunD K "__init__" "Ratio.__init__" (defArgs s_Ratio___init__) (defBody s_Ratio___init__) (defScope s_Ratio___init__) (d_Ratio___init__.dvs K) [] (mA "Ratio" "__init__" K) fd
  D_Ratio_top : ∃ fd, FunD K "top" "Ratio.top" (defArgs s_Ratio_top) (defBody s_Ratio_top) (defScope s_Ratio_top) [] [] (rA "property" "Ratio" "top" K) fd
  D_Ratio_bottom : ∃ fd, FunD K "bottom" "Ratio.bottom" (defArgs s_Ratio_bottom) (defBody s_Ratio_bottom) (defScope s_Ratio_bottom) [] [] (rA "property" "Ratio" "bottom" K) fd
  D_Ratio___add__ : ∃ fd, FunD K "__add__" "Ratio.__add__" (defArgs s_Ratio___add__) (defBody s_Ratio___add__) (defScope s_Ratio___add__) [] [] (mA "Ratio" "__add__" K) fd
  D_Ratio___sub__ : ∃ fd, FunD K "__sub__" "Ratio.__sub__" (defArgs s_Ratio___sub__) (defBody s_Ratio___sub__) (defScope s_Ratio___sub__) [] [] (mA "Ratio" "__sub__" K) fd
  D_Ratio___mul__ : ∃ fd, FunD K "__mul__" "Ratio.__mul__" (defArgs s_Ratio___mul__) (defBody s_Ratio___mul__) (defScope s_Ratio___mul__) [] [] (mA "Ratio" "__mul__" K) fd
  D_Ratio___neg__ : ∃ fd, FunD K "__neg__" "Ratio.__neg__" (defArgs s_Ratio___neg__) (defBody s_Ratio___neg__) (defScope s_Ratio___neg__) [] [] (mA "Ratio" "__neg__" K) fd
  D_Ratio___abs__ : ∃ fd, FunD K "__abs__" "Ratio.__abs__" (defArgs s_Ratio___abs__) (defBody s_Ratio___abs__) (defScope s_Ratio___abs__) [] [] (mA "Ratio" "__abs__" K) fd
  D_Ratio___bool__ : ∃ fd, FunD K "__bool__" "Ratio.__bool__" (defArgs s_Ratio___bool__) (defBody s_Ratio___bool__) (defScope s_Ratio___bool__) [] [] (mA "Ratio" "__bool__" K) fd
  D_Ratio___eq__ : ∃ fd, FunD K "__eq__" "Ratio.__eq__" (defArgs s_Ratio___eq__) (defBody s_Ratio___eq__) (defScope s_Ratio___eq__) [] [] (mA "Ratio" "__eq__" K) fd
  D_Ratio___str__ : ∃ fd, FunD K "__str__" "Ratio.__str__" (defArgs s_Ratio___str__) (defBody s_Ratio___str__) (defScope s_Ratio___str__) [] [] (mA "Ratio" "__str__" K) fd
  D_told_lowest : ∃ fd, FunD K "told_lowest" "told_lowest" (defArgs s_told_lowest) (defBody s_told_lowest) (defScope s_told_lowest) [] [] (gA "told_lowest" K) fd
  D_ratio_from : ∃ fd, FunD K "ratio_from" "ratio_from" (defArgs s_ratio_from) (defBody s_ratio_from) (defScope s_ratio_from) [] [] (gA "ratio_from" K) fd
  D_is_ratio : ∃ fd, FunD K "is_ratio" "is_ratio" (defArgs s_is_ratio) (defBody s_is_ratio) (defScope s_is_ratio) [] [] (gA "is_ratio" K) fd
  D_is_row : ∃ fd, FunD K "is_row" "is_row" (defArgs s_is_row) (defBody s_is_row) (defScope s_is_row) [] [] (gA "is_row" K) fd
  D_are_rows : ∃ fd, FunD K "are_rows" "are_rows" (defArgs s_are_rows) (defBody s_are_rows) (defScope s_are_rows) [] [] (gA "are_rows" K) fd
  D_width_of : ∃ fd, FunD K "width_of" "width_of" (defArgs s_width_of) (defBody s_width_of) (defScope s_width_of) [] [] (gA "width_of" K) fd
  D_require_rows : ∃ fd, FunD K "require_rows" "require_rows" (defArgs s_require_rows) (defBody s_require_rows) (defScope s_require_rows) [] [] (gA "require_rows" K) fd
  D_has_great : ∃ fd, FunD K "has_great" "has_great" (defArgs s_has_great) (defBody s_has_great) (defScope s_has_great) [] [] (gA "has_great" K) fd
  D_require_small : ∃ fd, FunD K "require_small" "require_small" (defArgs s_require_small) (defBody s_require_small) (defScope s_require_small) [] [] (gA "require_small" K) fd
  D_whole_row : ∃ fd, FunD K "whole_row" "whole_row" (defArgs s_whole_row) (defBody s_whole_row) (defScope s_whole_row) [] [] (gA "whole_row" K) fd
  D_ratio_row : ∃ fd, FunD K "ratio_row" "ratio_row" (defArgs s_ratio_row) (defBody s_ratio_row) (defScope s_ratio_row) [] [] (gA "ratio_row" K) fd
  D_sum_of : ∃ fd, FunD K "sum_of" "sum_of" (defArgs s_sum_of) (defBody s_sum_of) (defScope s_sum_of) [] [] (gA "sum_of" K) fd
  D_turned : ∃ fd, FunD K "turned" "turned" (defArgs s_turned) (defBody s_turned) (defScope s_turned) [] [] (gA "turned" K) fd
  D_multiplied : ∃ fd, FunD K "multiplied" "multiplied" (defArgs s_multiplied) (defBody s_multiplied) (defScope s_multiplied) [] [] (gA "multiplied" K) fd
  D_w_well : ∃ fd, FunD K "_law_well" "_law_well" (defArgs s_w_well) (defBody s_w_well) (defScope s_w_well) [] [] (gA "_law_well" K) fd
  D_w_dip : ∃ fd, FunD K "_law_dip" "_law_dip" (defArgs s_w_dip) (defBody s_w_dip) (defScope s_w_dip) [] [] (gA "_law_dip" K) fd
  D_w_low : ∃ fd, FunD K "_law_low" "_law_low" (defArgs s_w_low) (defBody s_w_low) (defScope s_w_low) [] [] (gA "_law_low" K) fd
  D_w_plus : ∃ fd, FunD K "_law_plus" "_law_plus" (defArgs s_w_plus) (defBody s_w_plus) (defScope s_w_plus) [] [] (gA "_law_plus" K) fd
  D_w_times : ∃ fd, FunD K "_law_times" "_law_times" (defArgs s_w_times) (defBody s_w_times) (defScope s_w_times) [] [] (gA "_law_times" K) fd
  D_w_less : ∃ fd, FunD K "_law_less" "_law_less" (defArgs s_w_less) (defBody s_w_less) (defScope s_w_less) [] [] (gA "_law_less" K) fd
  D_w_mixed : ∃ fd, FunD K "_law_mixed" "_law_mixed" (defArgs s_w_mixed) (defBody s_w_mixed) (defScope s_w_mixed) [] [] (gA "_law_mixed" K) fd
  D_w_ratios : ∃ fd, FunD K "_law_ratios" "_law_ratios" (defArgs s_w_ratios) (defBody s_w_ratios) (defScope s_w_ratios) [] [] (gA "_law_ratios" K) fd
  D_w_told : ∃ fd, FunD K "_law_told" "_law_told" (defArgs s_w_told) (defBody s_w_told) (defScope s_w_told) [] [] (gA "_law_told" K) fd
  D_w_lot : ∃ fd, FunD K "_law_lot" "_law_lot" (defArgs s_w_lot) (defBody s_w_lot) (defScope s_w_lot) [] [] (gA "_law_lot" K) fd
  D_w_turned : ∃ fd, FunD K "_law_turned" "_law_turned" (defArgs s_w_turned) (defBody s_w_turned) (defScope s_w_turned) [] [] (gA "_law_turned" K) fd
  D_w_right : ∃ fd, FunD K "_law_right" "_law_right" (defArgs s_w_right) (defBody s_w_right) (defScope s_w_right) [] [] (gA "_law_right" K) fd
  D_law : ∃ fd, FunD K "law" "law" (defArgs s_law) (defBody s_law) (defScope s_law) [] [] (gA "law" K) fd
theorem tx_of {K : PySem.W.Frag} {h : Heap} {mg : Str → Option Value} (X : K.In h) (G : h.Ns mainGlobals mg) (c : SaysX fs ds K) : Tx K mg where
  G_is_integer := fGlo_ok X G (c.fact 0)
  G_lowest_of := fGlo_ok X G (c.fact 1)
  G_told_lowest := fGlo_ok X G (c.fact 2)
  G_ratio_from := fGlo_ok X G (c.fact 3)
  G_is_ratio := fGlo_ok X G (c.fact 4)
  G_is_row := fGlo_ok X G (c.fact 5)
  G_are_rows := fGlo_ok X G (c.fact 6)
  G_width_of := fGlo_ok X G (c.fact 7)
  G_require_rows := fGlo_ok X G (c.fact 8)
  G_has_great := fGlo_ok X G (c.fact 9)
  G_require_small := fGlo_ok X G (c.fact 10)
  G_whole_row := fGlo_ok X G (c.fact 11)
  G_ratio_row := fGlo_ok X G (c.fact 12)
  G_sum_of := fGlo_ok X G (c.fact 13)
  G_turned := fGlo_ok X G (c.fact 14)
  G_multiplied := fGlo_ok X G (c.fact 15)
  G_w_well := fGlo_ok X G (c.fact 16)
  G_w_dip := fGlo_ok X G (c.fact 17)
  G_w_low := fGlo_ok X G (c.fact 18)
  G_w_plus := fGlo_ok X G (c.fact 19)
  G_w_times := fGlo_ok X G (c.fact 20)
  G_w_less := fGlo_ok X G (c.fact 21)
  G_w_mixed := fGlo_ok X G (c.fact 22)
  G_w_ratios := fGlo_ok X G (c.fact 23)
  G_w_told := fGlo_ok X G (c.fact 24)
  G_w_lot := fGlo_ok X G (c.fact 25)
  G_w_turned := fGlo_ok X G (c.fact 26)
  G_w_right := fGlo_ok X G (c.fact 27)
  G_law := fGlo_ok X G (c.fact 28)
  G_WorthError := fGlo_ok X G (c.fact 29)
  G_InvalidRows := fGlo_ok X G (c.fact 30)
  G_InvalidOperation := fGlo_ok X G (c.fact 31)
  G_InvalidNumber := fGlo_ok X G (c.fact 32)
  G_TooMany := fGlo_ok X G (c.fact 33)
  G_Lowest := fGlo_ok X G (c.fact 34)
  G_Ratio := fGlo_ok X G (c.fact 35)
  N_abs := fFree_ok X G (c.fact 36)
  N_all := fFree_ok X G (c.fact 37)
  N_any := fFree_ok X G (c.fact 38)
  N_bool := fFree_ok X G (c.fact 39)
  N_int := fFree_ok X G (c.fact 40)
  N_isinstance := fFree_ok X G (c.fact 41)
  N_len := fFree_ok X G (c.fact 42)
  N_max := fFree_ok X G (c.fact 43)
  N_min := fFree_ok X G (c.fact 44)
  N_range := fFree_ok X G (c.fact 45)
  N_str := fFree_ok X G (c.fact 46)
  N_tuple := fFree_ok X G (c.fact 47)
  N_zip := fFree_ok X G (c.fact 48)
  N_NotImplemented := fFree_ok X G (c.fact 49)
  B_gcd := fBlt_ok X G (c.fact 50)
  B_lcm := fBlt_ok X G (c.fact 51)
  I_GREAT_plain := fInt_ok X G (c.fact 52)
  I_MAX_DIGITS := fInt_ok X G (c.fact 53)
  I_FIRST_TOO_GREAT := fInt_ok X G (c.fact 54)
  I_MAX_ROWS := fInt_ok X G (c.fact 55)
  I_MOST_LONG := fInt_ok X G (c.fact 56)
  I_ENTRY_DIGITS := fInt_ok X G (c.fact 57)
  I_GREAT_rows := fInt_ok X G (c.fact 58)
  C_Lowest := fSl2_ok (c.fact 59)
  C_Ratio := fSl2_ok (c.fact 60)
  K_int_Lowest := fKit_ok (t := fun _ => .type "int") (c.fact 61)
  K_str_Lowest := fKit_ok (t := fun _ => .type "str") (c.fact 62)
  K_bool_Lowest := fKit_ok (t := fun _ => .type "bool") (c.fact 63)
  K_NoneType_Lowest := fKit_ok (t := fun _ => .type "NoneType") (c.fact 64)
  K_tuple_Lowest := fKit_ok (t := fun _ => .type "tuple") (c.fact 65)
  K_list_Lowest := fKit_ok (t := fun _ => .type "list") (c.fact 66)
  K_dict_Lowest := fKit_ok (t := fun _ => .type "dict") (c.fact 67)
  K_Lowest_Lowest := fKit_ok (t := fun K => .ref (gA "Lowest" K)) (c.fact 68)
  K_Ratio_Lowest := fKit_ok (t := fun K => .ref (gA "Ratio" K)) (c.fact 69)
  K_int_Ratio := fKit_ok (t := fun _ => .type "int") (c.fact 70)
  K_str_Ratio := fKit_ok (t := fun _ => .type "str") (c.fact 71)
  K_bool_Ratio := fKit_ok (t := fun _ => .type "bool") (c.fact 72)
  K_NoneType_Ratio := fKit_ok (t := fun _ => .type "NoneType") (c.fact 73)
  K_tuple_Ratio := fKit_ok (t := fun _ => .type "tuple") (c.fact 74)
  K_list_Ratio := fKit_ok (t := fun _ => .type "list") (c.fact 75)
  K_dict_Ratio := fKit_ok (t := fun _ => .type "dict") (c.fact 76)
  K_Lowest_Ratio := fKit_ok (t := fun K => .ref (gA "Lowest" K)) (c.fact 77)
  K_Ratio_Ratio := fKit_ok (t := fun K => .ref (gA "Ratio" K)) (c.fact 78)
  P_Ratio_top := fProp_ok (c.fact 79)
  P_Ratio_bottom := fProp_ok (c.fact 80)
  O_Ratio_over := fOwn_ok (c.fact 81)
  O_Ratio_is_less := fOwn_ok (c.fact 82)
  O_Ratio___add__ := fOwn_ok (c.fact 83)
  O_Ratio___sub__ := fOwn_ok (c.fact 84)
  O_Ratio___mul__ := fOwn_ok (c.fact 85)
  O_Ratio___neg__ := fOwn_ok (c.fact 86)
  O_Ratio___abs__ := fOwn_ok (c.fact 87)
  O_Ratio___bool__ := fOwn_ok (c.fact 88)
  O_Ratio___eq__ := fOwn_ok (c.fact 89)
  O_Ratio___str__ := fOwn_ok (c.fact 90)
  D_is_integer := c.def_ 0 (d := d_is_integer)
  D_Lowest___init__ := c.def_ 1 (d := d_Lowest___init__)
  D_lowest_of := c.def_ 2 (d := d_lowest_of)
  D_Ratio___init__ := c.def_ 3 (d := d_Ratio___init__)
  D_Ratio_top := c.def_ 4 (d := d_Ratio_top)
  D_Ratio_bottom := c.def_ 5 (d := d_Ratio_bottom)
  D_Ratio___add__ := c.def_ 6 (d := d_Ratio___add__)
  D_Ratio___sub__ := c.def_ 7 (d := d_Ratio___sub__)
  D_Ratio___mul__ := c.def_ 8 (d := d_Ratio___mul__)
  D_Ratio___neg__ := c.def_ 9 (d := d_Ratio___neg__)
  D_Ratio___abs__ := c.def_ 10 (d := d_Ratio___abs__)
  D_Ratio___bool__ := c.def_ 11 (d := d_Ratio___bool__)
  D_Ratio___eq__ := c.def_ 12 (d := d_Ratio___eq__)
  D_Ratio___str__ := c.def_ 13 (d := d_Ratio___str__)
  D_told_lowest := c.def_ 14 (d := d_told_lowest)
  D_ratio_from := c.def_ 15 (d := d_ratio_from)
  D_is_ratio := c.def_ 16 (d := d_is_ratio)
  D_is_row := c.def_ 17 (d := d_is_row)
  D_are_rows := c.def_ 18 (d := d_are_rows)
  D_width_of := c.def_ 19 (d := d_width_of)
  D_require_rows := c.def_ 20 (d := d_require_rows)
  D_has_great := c.def_ 21 (d := d_has_great)
  D_require_small := c.def_ 22 (d := d_require_small)
  D_whole_row := c.def_ 23 (d := d_whole_row)
  D_ratio_row := c.def_ 24 (d := d_ratio_row)
  D_sum_of := c.def_ 25 (d := d_sum_of)
  D_turned := c.def_ 26 (d := d_turned)
  D_multiplied := c.def_ 27 (d := d_multiplied)
  D_w_well := c.def_ 28 (d := d_w_well)
  D_w_dip := c.def_ 29 (d := d_w_dip)
  D_w_low := c.def_ 30 (d := d_w_low)
  D_w_plus := c.def_ 31 (d := d_w_plus)
  D_w_times := c.def_ 32 (d := d_w_times)
  D_w_less := c.def_ 33 (d := d_w_less)
  D_w_mixed := c.def_ 34 (d := d_w_mixed)
  D_w_ratios := c.def_ 35 (d := d_w_ratios)
  D_w_told := c.def_ 36 (d := d_w_told)
  D_w_lot := c.def_ 37 (d := d_w_lot)
  D_w_turned := c.def_ 38 (d := d_w_turned)
  D_w_right := c.def_ 39 (d := d_w_right)
  D_law := c.def_ 40 (d := d_law)
end LW
end
section
set_option Elab.async false
set_option linter.all false
set_option maxRecDepth 100000
set_option maxHeartbeats 4000000
set_option exponentiation.threshold 20000
/-! k06, part M: whole rows, plainly. -/
namespace LW
def lcms (ns : List Nat) : Nat := ns.foldl Nat.lcm 1
theorem foldl_lcm (ns : List Nat) : ∀ a, ns.foldl Nat.lcm a = Nat.lcm a (lcms ns) := by
  unfold lcms
  induction ns with
  | nil => intro a; simp
  | cons b t ih =>
    intro a
    rw [List.foldl_cons, List.foldl_cons, ih, ih (Nat.lcm 1 b), Nat.lcm_one_left, Nat.lcm_assoc]
theorem lcms_cons (b : Nat) (t : List Nat) : lcms (b :: t) = Nat.lcm b (lcms t) := by
  show (b :: t).foldl Nat.lcm 1 = _
  rw [List.foldl_cons, foldl_lcm, Nat.lcm_one_left]
theorem lcms_snoc (b : Nat) (t : List Nat) : lcms (t ++ [b]) = Nat.lcm (lcms t) b := by
  unfold lcms
  rw [List.foldl_append]
  rfl
theorem lcms_pos {ns : List Nat} (h : ∀ n ∈ ns, 0 < n) : 0 < lcms ns := by
  induction ns with
  | nil => exact Nat.one_pos
  | cons b t ih =>
    rw [lcms_cons]
    exact Nat.lcm_pos (h b List.mem_cons_self) (ih fun n hn => h n (List.mem_cons_of_mem _ hn))
theorem dvd_lcms {ns : List Nat} {n : Nat} (h : n ∈ ns) : n ∣ lcms ns := by
  induction ns with
  | nil => cases h
  | cons b t ih =>
    rw [lcms_cons]
    rcases List.mem_cons.mp h with rfl | h
    · exact Nat.dvd_lcm_left _ _
    · exact Nat.dvd_trans (ih h) (Nat.dvd_lcm_right _ _)
theorem lcms_le {ns : List Nat} {B : Nat} (h : ∀ n ∈ ns, n ≤ B) : lcms ns ≤ B ^ ns.length := by
  induction ns with
  | nil => exact Nat.le_refl 1
  | cons b t ih =>
    rw [lcms_cons, List.length_cons, Nat.pow_succ, Nat.mul_comm]
    exact Nat.le_trans (Wo.lcm_le' _ _) (Nat.mul_le_mul (h b List.mem_cons_self) (ih fun n hn => h n (List.mem_cons_of_mem _ hn)))
theorem lcms_lt {ns : List Nat} {b k : Nat} (h : ∀ n ∈ ns, n ≤ 2 ^ b) (hl : ns.length ≤ k) : lcms ns ≤ 2 ^ (b * k) := by
  refine Nat.le_trans (lcms_le h) ?_
  rw [← Nat.pow_mul]
  exact Nat.pow_le_pow_right (by decide) (Nat.mul_le_mul_left _ hl)
def scN (row : List Rat) : Nat := lcms (row.map (·.den))
def nums (s : Int) (row : List Rat) : List Int := row.map fun q => q.num * s.fdiv (q.den : Int)
def shN (rows : List (List Rat)) : Nat := lcms (rows.map scN)
theorem scN_pos (row : List Rat) : 0 < scN row := lcms_pos fun n hn => by
  obtain ⟨q, _, rfl⟩ := List.mem_map.mp hn
  exact q.den_pos
theorem shN_pos (rows : List (List Rat)) : 0 < shN rows := lcms_pos fun n hn => by
  obtain ⟨q, _, rfl⟩ := List.mem_map.mp hn
  exact scN_pos q
theorem den_dvd {q : Rat} {row : List Rat} (h : q ∈ row) : q.den ∣ scN row := dvd_lcms (List.mem_map.mpr ⟨q, h, rfl⟩)
theorem sc_dvd {r : List Rat} {rows : List (List Rat)} (h : r ∈ rows) : scN r ∣ shN rows := dvd_lcms (List.mem_map.mpr ⟨r, h, rfl⟩)
def stepI (B : Int) (f : List Int) (p : Int × (Int × List Int)) : List Int := (f.zip p.2.2).map fun q => q.1 + p.1 * B.fdiv p.2.1 * q.2
def stepR (f : List Rat) (p : Rat × List Rat) : List Rat := (f.zip p.2).map fun q => q.1 + p.1 * q.2
/-- the row of weights times the rows -/
def vm (ws : List Rat) (rows : List (List Rat)) (width : Nat) : List Rat := (ws.zip rows).foldl stepR (List.replicate width 0)
def sumI (ws : List Rat) (rows : List (List Rat)) (width : Nat) : List Int :=
  ((nums (scN ws) ws).zip (rows.map fun r => ((scN r : Int), nums (scN r) r))).foldl (stepI (shN rows)) (List.replicate width 0)
theorem num_eq (q : Rat) : ((q.num : Int) : Rat) = q * ((q.den : Int) : Rat) := by
  have h := Rat.num_divInt_den q
  rw [Rat.divInt_eq_div] at h
  have hd : (((q.den : Nat) : Int) : Rat) ≠ 0 := by
    have := q.den_nz
    intro z
    exact this (by exact_mod_cast z)
  grind
theorem cast_ne {n : Int} (h : n ≠ 0) : (n : Rat) ≠ 0 := fun z => h (by exact_mod_cast z)
theorem whole_of {q : Rat} {s : Int} (hd : (q.den : Int) ∣ s) (hs : s ≠ 0) : ((q.num * s.fdiv (q.den : Int) : Int) : Rat) / (s : Rat) = q := by
  obtain ⟨m, rfl⟩ := hd
  have hd0 : (q.den : Int) ≠ 0 := by have := q.den_pos; omega
  have hm : m ≠ 0 := fun z => hs (by rw [z, Int.mul_zero])
  rw [Int.mul_fdiv_cancel_left _ hd0, Rat.intCast_mul, Rat.intCast_mul, num_eq]
  have h1 := cast_ne hd0
  have h2 := cast_ne hm
  generalize ((q.den : Int) : Rat) = d at *
  generalize (m : Rat) = m' at *
  grind
/-- one turn of the sum -/
theorem turn_of {A B : Int} {w : Rat} {r : List Rat} (hA : A ≠ 0) (hB : B ≠ 0) (hw : (w.den : Int) ∣ A) (hr : ((scN r : Nat) : Int) ∣ B) {q : Rat} (hq : q ∈ r) (o : Int) :
    ((o + w.num * A.fdiv (w.den : Int) * B.fdiv (scN r : Nat) * (q.num * ((scN r : Nat) : Int).fdiv (q.den : Int)) : Int) : Rat) / ((A * B : Int) : Rat) = (o : Rat) / ((A * B : Int) : Rat) + w * q := by
  have e1 := whole_of hw hA
  have hs0 : ((scN r : Nat) : Int) ≠ 0 := by have := scN_pos r; omega
  have e2 := whole_of (q := q) (s := ((scN r : Nat) : Int)) (by exact_mod_cast den_dvd hq) hs0
  obtain ⟨m, rfl⟩ := hr
  have hm : m ≠ 0 := fun z => hB (by rw [z, Int.mul_zero])
  rw [Int.mul_fdiv_cancel_left _ hs0]
  generalize w.num * A.fdiv (w.den : Int) = F at *
  generalize q.num * ((scN r : Nat) : Int).fdiv (q.den : Int) = G at *
  generalize ((scN r : Nat) : Int) = S at *
  have h1 := cast_ne hA
  have h2 := cast_ne hs0
  have h3 := cast_ne hm
  simp only [Rat.intCast_mul, Rat.intCast_add]
  generalize (A : Rat) = a at *
  generalize (S : Rat) = s at *
  generalize (m : Rat) = m' at *
  generalize (F : Rat) = f at *
  generalize (G : Rat) = g at *
  generalize (o : Rat) = o' at *
  subst e1 e2
  grind
theorem step_of {A B : Int} {w : Rat} {r : List Rat} (hA : A ≠ 0) (hB : B ≠ 0) (hw : (w.den : Int) ∣ A) (hr : ((scN r : Nat) : Int) ∣ B) (f : List Int) :
    (stepI B f (w.num * A.fdiv (w.den : Int), (((scN r : Nat) : Int), nums (scN r) r))).map (fun n : Int => (n : Rat) / ((A * B : Int) : Rat)) = stepR (f.map fun n : Int => (n : Rat) / ((A * B : Int) : Rat)) (w, r) := by
  unfold stepI stepR nums
  simp only
  have key : ∀ (f : List Int) (t : List Rat), (∀ q ∈ t, q ∈ r) → List.map (fun n : Int => (n : Rat) / ((A * B : Int) : Rat)) (List.map (fun q : Int × Int => q.1 + w.num * A.fdiv (w.den : Int) * B.fdiv (scN r : Nat) * q.2) (f.zip (List.map (fun q : Rat => q.num * ((scN r : Nat) : Int).fdiv (q.den : Int)) t))) = List.map (fun q : Rat × Rat => q.1 + w * q.2) ((List.map (fun n : Int => (n : Rat) / ((A * B : Int) : Rat)) f).zip t) := by
    intro f
    induction f with
    | nil => intro t _; simp
    | cons o f ih =>
      intro t ht
      cases t with
      | nil => simp
      | cons q t =>
        simp only [List.map_cons, List.zip_cons_cons]
        rw [ih t fun x hx => ht x (List.mem_cons_of_mem _ hx), turn_of hA hB hw hr (ht q List.mem_cons_self)]
  exact key f r fun _ h => h
theorem fold_of {A B : Int} (hA : A ≠ 0) (hB : B ≠ 0) : ∀ (ps : List (Rat × List Rat)) (f : List Int), (∀ p ∈ ps, (p.1.den : Int) ∣ A ∧ ((scN p.2 : Nat) : Int) ∣ B) →
    ((ps.map fun p => (p.1.num * A.fdiv (p.1.den : Int), (((scN p.2 : Nat) : Int), nums (scN p.2) p.2))).foldl (stepI B) f).map (fun n : Int => (n : Rat) / ((A * B : Int) : Rat)) = ps.foldl stepR (f.map fun n : Int => (n : Rat) / ((A * B : Int) : Rat))
  | [], f, _ => rfl
  | p :: ps, f, h => by
    rw [List.map_cons, List.foldl_cons, List.foldl_cons, fold_of hA hB ps _ fun x hx => h x (List.mem_cons_of_mem _ hx)]
    obtain ⟨h1, h2⟩ := h p List.mem_cons_self
    rw [step_of hA hB h1 h2]
theorem zip_conv (ws : List Rat) (rows : List (List Rat)) (A : Int) : (nums A ws).zip (rows.map fun r => (((scN r : Nat) : Int), nums (scN r) r)) = (ws.zip rows).map fun p => (p.1.num * A.fdiv (p.1.den : Int), (((scN p.2 : Nat) : Int), nums (scN p.2) p.2)) := by
  unfold nums
  rw [List.zip_map]
  rfl
theorem sum_of_vm (ws : List Rat) (rows : List (List Rat)) (width : Nat) : (sumI ws rows width).map (fun n => Rat.divInt n ((scN ws : Int) * (shN rows : Int))) = vm ws rows width := by
  have hA : ((scN ws : Nat) : Int) ≠ 0 := by have := scN_pos ws; omega
  have hB : ((shN rows : Nat) : Int) ≠ 0 := by have := shN_pos rows; omega
  have e : (fun n : Int => Rat.divInt n ((scN ws : Int) * (shN rows : Int))) = fun n : Int => (n : Rat) / ((((scN ws : Nat) : Int) * ((shN rows : Nat) : Int) : Int) : Rat) := funext fun n => Rat.divInt_eq_div _ _
  rw [e]
  unfold sumI vm
  rw [zip_conv, fold_of hA hB]
  · rw [List.map_replicate]
    congr 2
    show ((0 : Int) : Rat) / _ = 0
    rw [Rat.div_def]
    exact Rat.zero_mul _
  · intro p hp
    obtain ⟨h1, h2⟩ := List.of_mem_zip (a := p.1) (b := p.2) hp
    exact ⟨by exact_mod_cast den_dvd h1, by exact_mod_cast sc_dvd h2⟩
end LW
namespace LW
/-- few rows of one width -/
def Few (rows : List (List Rat)) : Prop := rows.length ≤ 8 ∧ (∀ r ∈ rows, r.length ≤ 8) ∧ ∀ r ∈ rows, r.length = Wo.wd rows
/-- small ratios -/
def Sm (q : Rat) : Prop := q.num.natAbs < 10 ^ 20 ∧ q.den < 10 ^ 20
def SmR (row : List Rat) : Prop := row.length ≤ 8 ∧ ∀ q ∈ row, Sm q
theorem Few.row {rows : List (List Rat)} (h : Few rows) (hs : ∀ r ∈ rows, ∀ q ∈ r, Sm q) {r : List Rat} (hr : r ∈ rows) : SmR r := ⟨h.2.1 r hr, hs r hr⟩
theorem sc_le {row : List Rat} (h : SmR row) : scN row ≤ 2 ^ 536 := lcms_lt (ns := row.map fun q => q.den) (b := 67) (fun n hn => by
  obtain ⟨q, hq, rfl⟩ := List.mem_map.mp hn
  have := (h.2 q hq).2
  omega) (by rw [List.length_map]; exact h.1)
theorem sc_leT {row : List Rat} (h : SmR row) (i : Nat) : scN (row.take i) ≤ 2 ^ 536 := sc_le ⟨by rw [List.length_take]; have := h.1; omega, fun q hq => h.2 q (List.mem_of_mem_take hq)⟩
theorem sh_le {rows : List (List Rat)} (h : rows.length ≤ 8) (hs : ∀ r ∈ rows, SmR r) : shN rows ≤ 2 ^ 4288 := lcms_lt (ns := rows.map scN) (b := 536) (fun n hn => by
  obtain ⟨q, hq, rfl⟩ := List.mem_map.mp hn
  exact sc_le (hs q hq)) (by rw [List.length_map]; exact h)
theorem sh_leT {rows : List (List Rat)} (h : rows.length ≤ 8) (hs : ∀ r ∈ rows, SmR r) (i : Nat) : shN (rows.take i) ≤ 2 ^ 4288 := sh_le (by rw [List.length_take]; omega) fun q hq => hs q (List.mem_of_mem_take hq)
theorem sc_snoc {row : List Rat} {i : Nat} {q : Rat} (h : row[i]? = some q) : scN (row.take (i + 1)) = Nat.lcm (scN (row.take i)) q.den := by
  unfold scN
  rw [List.take_succ, h, List.map_append]
  exact lcms_snoc _ _
theorem sh_snoc {rows : List (List Rat)} {i : Nat} {r : List Rat} (h : rows[i]? = some r) : shN (rows.take (i + 1)) = Nat.lcm (shN (rows.take i)) (scN r) := by
  unfold shN
  rw [List.take_succ, h, List.map_append]
  exact lcms_snoc _ _
theorem fdiv_le {a : Nat} {b : Nat} : ((a : Int).fdiv (b : Int)).natAbs ≤ a := by
  rw [Int.fdiv_eq_ediv_of_nonneg _ (by omega), ← Int.natCast_ediv, Int.natAbs_natCast]
  exact Nat.div_le_self _ _
theorem mul_lt {x y : Int} {a b : Nat} (h1 : x.natAbs < 2 ^ a) (h2 : y.natAbs < 2 ^ b) : (x * y).natAbs < 2 ^ (a + b) := by
  rw [Int.natAbs_mul, Nat.pow_add]
  exact Nat.mul_lt_mul'' h1 h2
theorem num_lt {row : List Rat} (h : SmR row) {s : Nat} (hs : s ≤ 2 ^ 536) {n : Int} (hn : n ∈ nums s row) : n.natAbs < 2 ^ 604 := by
  obtain ⟨q, hq, rfl⟩ := List.mem_map.mp hn
  have h1 := (h.2 q hq).1
  have h2 : ((s : Int).fdiv (q.den : Int)).natAbs < 2 ^ 537 := Nat.lt_of_le_of_lt fdiv_le (Nat.lt_of_le_of_lt hs (Nat.pow_lt_pow_right (by decide) (by decide)))
  exact mul_lt (a := 67) (b := 537) (by omega) h2
end LW
namespace LW
theorem fold_bound {B : Int} {T : Nat} : ∀ (ps : List (Int × (Int × List Int))) (f : List Int) (k : Nat), (∀ n ∈ f, n.natAbs ≤ k * T) → (∀ p ∈ ps, ∀ n ∈ p.2.2, (p.1 * B.fdiv p.2.1 * n).natAbs ≤ T) → ∀ n ∈ ps.foldl (stepI B) f, n.natAbs ≤ (k + ps.length) * T
  | [], f, k, hf, _ => fun n hn => hf n hn
  | p :: ps, f, k, hf, h => fun n hn => by
    rw [List.foldl_cons] at hn
    have h2 := fold_bound ps (stepI B f p) (k + 1) (fun m hm => by
      unfold stepI at hm
      obtain ⟨q, hq, rfl⟩ := List.mem_map.mp hm
      obtain ⟨q1, q2⟩ := List.of_mem_zip (a := q.1) (b := q.2) hq
      have a1 := hf q.1 q1
      have a2 := h p List.mem_cons_self q.2 q2
      have a3 := Int.natAbs_add_le q.1 (p.1 * B.fdiv p.2.1 * q.2)
      rw [Nat.succ_mul]
      omega) (fun x hx => h x (List.mem_cons_of_mem _ hx)) n hn
    rw [List.length_cons]
    have e : k + 1 + ps.length = k + (ps.length + 1) := by omega
    rw [e] at h2
    exact h2
theorem nums_one {row : List Rat} (h : SmR row) {n : Int} (hn : n ∈ nums (scN row) row) : n.natAbs < 2 ^ 604 := num_lt h (sc_le h) hn
theorem term_lt {a b c : Int} {B : Nat} (ha : a.natAbs < 2 ^ 604) (hB : B ≤ 2 ^ 4288) {s : Nat} (hb : b = (s : Int)) (hc : c.natAbs < 2 ^ 604) : (a * (B : Int).fdiv b).natAbs < 2 ^ 4893 ∧ (a * (B : Int).fdiv b * c).natAbs < 2 ^ 5497 := by
  subst hb
  have h1 : ((B : Int).fdiv (s : Int)).natAbs < 2 ^ 4289 := Nat.lt_of_le_of_lt fdiv_le (Nat.lt_of_le_of_lt hB (Nat.pow_lt_pow_right (by decide) (by decide)))
  have h2 := mul_lt (a := 604) (b := 4289) ha h1
  exact ⟨h2, mul_lt (a := 4893) (b := 604) h2 hc⟩
theorem sumI_lt {ws : List Rat} {rows : List (List Rat)} {w : Nat} (hw : SmR ws) (hl : rows.length ≤ 8) (hr : ∀ r ∈ rows, SmR r) {n : Int} (hn : n ∈ sumI ws rows w) : n.natAbs < 2 ^ 5501 := by
  have h := fold_bound (T := 2 ^ 5497) _ _ 0 (fun m hm => by
    have := List.eq_of_mem_replicate hm
    subst this
    exact Nat.zero_le _) (fun p hp m hm => by
    obtain ⟨p1, p2⟩ := List.of_mem_zip (a := p.1) (b := p.2) hp
    obtain ⟨r, hr2, e⟩ := List.mem_map.mp p2
    have hm' : m ∈ nums (scN r) r := by rw [← e] at hm; exact hm
    exact Nat.le_of_lt (term_lt (nums_one hw p1) (sh_le hl hr) (s := scN r) (by rw [← e]) (nums_one (hr r hr2) hm')).2) n hn
  have hlen : ((nums (scN ws) ws).zip (rows.map fun r => (((scN r : Nat) : Int), nums (scN r) r))).length ≤ 8 := by
    rw [List.length_zip, List.length_map]
    omega
  have e8 : (2 : Nat) ^ 5501 = 16 * 2 ^ 5497 := by rw [show (5501 : Nat) = 4 + 5497 from rfl, Nat.pow_add]
  have hp : 0 < 2 ^ 5497 := Nat.pow_pos (by decide)
  rw [e8]
  generalize (2 : Nat) ^ 5497 = T at *
  refine Nat.lt_of_le_of_lt h ?_
  exact Nat.mul_lt_mul_of_pos_right (by omega) hp
theorem num_le (n s : Int) : (Rat.divInt n s).num.natAbs ≤ n.natAbs := by
  rw [Rat.num_divInt]
  by_cases h0 : s = 0
  · subst h0
    simp
  · have h1 : (s.sign * n).natAbs = n.natAbs := by
      rw [Int.natAbs_mul, Int.natAbs_sign_of_ne_zero h0, Nat.one_mul]
    refine Nat.le_trans ?_ (Nat.le_of_eq h1)
    exact Int.natAbs_ediv_le_natAbs _ _
theorem den_le {n s : Int} (h : s ≠ 0) : (Rat.divInt n s).den ≤ s.natAbs := by
  rw [Rat.den_divInt, if_neg h]
  exact Nat.div_le_self _ _
theorem big_lt : (2 : Nat) ^ 5501 < 10 ^ 2000 := by decide +kernel
theorem ratio_lt {ws : List Rat} {rows : List (List Rat)} {w : Nat} (hw : SmR ws) (hl : rows.length ≤ 8) (hr : ∀ r ∈ rows, SmR r) :
    ((scN ws : Int) * (shN rows : Int)) ≠ 0 ∧ ((scN ws : Int) * (shN rows : Int)).natAbs < 2 ^ 8999 ∧ ∀ n ∈ sumI ws rows w, (Rat.divInt n ((scN ws : Int) * (shN rows : Int))).num.natAbs < 10 ^ 2000 ∧ (Rat.divInt n ((scN ws : Int) * (shN rows : Int))).den < 10 ^ 2000 := by
  have h0 : ((scN ws : Int) * (shN rows : Int)) ≠ 0 := Int.mul_ne_zero (by have := scN_pos ws; omega) (by have := shN_pos rows; omega)
  have h1 : ((scN ws : Int) * (shN rows : Int)).natAbs < 2 ^ 4826 := mul_lt (a := 537) (b := 4289) (by rw [Int.natAbs_natCast]; exact Nat.lt_of_le_of_lt (sc_le hw) (Nat.pow_lt_pow_right (by decide) (by decide))) (by rw [Int.natAbs_natCast]; exact Nat.lt_of_le_of_lt (sh_le hl hr) (Nat.pow_lt_pow_right (by decide) (by decide)))
  refine ⟨h0, Nat.lt_trans h1 (Nat.pow_lt_pow_right (by decide) (by decide)), fun n hn => ⟨?_, ?_⟩⟩
  · exact Nat.lt_trans (Nat.lt_of_le_of_lt (num_le _ _) (sumI_lt hw hl hr hn)) big_lt
  · exact Nat.lt_trans (Nat.lt_of_le_of_lt (den_le h0) h1) (Nat.lt_trans (Nat.pow_lt_pow_right (by decide) (by decide)) big_lt)
end LW
end
section
set_option Elab.async false
set_option linter.all false
set_option maxRecDepth 100000
set_option maxHeartbeats 4000000
set_option exponentiation.threshold 20000
/-! k06, part M2: bounds of sums and products. -/
namespace LW
open Wo
/-- both parts of less than n bits -/
def Bd (n : Nat) (q : Rat) : Prop := q.num.natAbs < 2 ^ n ∧ q.den < 2 ^ n
theorem Bd.mono {n m : Nat} {q : Rat} (h : Bd n q) (hn : n ≤ m) : Bd m q := ⟨Nat.lt_of_lt_of_le h.1 (Nat.pow_le_pow_right (by decide) hn), Nat.lt_of_lt_of_le h.2 (Nat.pow_le_pow_right (by decide) hn)⟩
theorem Bd.sm {q : Rat} (h : Bd 66 q) : Sm q := by
  unfold Bd at h
  unfold Sm
  omega
theorem Sm.bd {q : Rat} (h : Sm q) : Bd 67 q := by
  unfold Sm at h
  unfold Bd
  omega
theorem add_eq (p q : Rat) : p + q = Rat.divInt (p.num * (q.den : Int) + q.num * (p.den : Int)) ((p.den : Int) * (q.den : Int)) := by
  have h1 := p.den_pos
  have h2 := q.den_pos
  rw [← Rat.divInt_add_divInt p.num q.num (by omega) (by omega), Rat.num_divInt_den, Rat.num_divInt_den]
theorem mul_eq (p q : Rat) : p * q = Rat.divInt (p.num * q.num) ((p.den : Int) * (q.den : Int)) := by
  rw [← Rat.divInt_mul_divInt, Rat.num_divInt_den, Rat.num_divInt_den]
theorem den_lt {q : Rat} {n : Nat} (h : Bd n q) : ((q.den : Int)).natAbs < 2 ^ n := by rw [Int.natAbs_natCast]; exact h.2
theorem add_num {p q : Rat} {n m : Nat} (hp : Bd n p) (hq : Bd m q) : (p.num * (q.den : Int) + q.num * (p.den : Int)).natAbs < 2 ^ (n + m + 1) := by
  have a := mul_lt hp.1 (den_lt hq)
  have b := mul_lt hq.1 (den_lt hp)
  rw [Nat.add_comm m n] at b
  have c := Int.natAbs_add_le (p.num * (q.den : Int)) (q.num * (p.den : Int))
  rw [Nat.pow_succ]
  omega
theorem den_mul {p q : Rat} {n m : Nat} (hp : Bd n p) (hq : Bd m q) : ((p.den : Int) * (q.den : Int)).natAbs < 2 ^ (n + m) := mul_lt (den_lt hp) (den_lt hq)
theorem den_ne (p q : Rat) : ((p.den : Int) * (q.den : Int)) ≠ 0 := Int.mul_ne_zero (by have := p.den_pos; omega) (by have := q.den_pos; omega)
theorem den_gt (p q : Rat) : 0 < ((p.den : Int) * (q.den : Int)) := Int.mul_pos (by have := p.den_pos; omega) (by have := q.den_pos; omega)
theorem Bd.add {p q : Rat} {n m : Nat} (hp : Bd n p) (hq : Bd m q) : Bd (n + m + 1) (p + q) := by
  rw [add_eq]
  exact ⟨Nat.lt_of_le_of_lt (num_le _ _) (add_num hp hq), Nat.lt_of_le_of_lt (den_le (den_ne p q)) (Nat.lt_of_lt_of_le (den_mul hp hq) (Nat.pow_le_pow_right (by decide) (by omega)))⟩
theorem Bd.mul {p q : Rat} {n m : Nat} (hp : Bd n p) (hq : Bd m q) : Bd (n + m) (p * q) := by
  rw [mul_eq]
  exact ⟨Nat.lt_of_le_of_lt (num_le _ _) (mul_lt hp.1 hq.1), Nat.lt_of_le_of_lt (den_le (den_ne p q)) (den_mul hp hq)⟩
theorem neg_num (q : Rat) : (-q).num = -q.num := rfl
theorem neg_den (q : Rat) : (-q).den = q.den := rfl
theorem zip_swp {α β : Type} : ∀ (as : List α) (bs : List β), bs.zip as = (as.zip bs).map Prod.swap
  | [], [] => rfl
  | [], _ :: _ => rfl
  | _ :: _, [] => rfl
  | a :: as, b :: bs => by
    rw [List.zip_cons_cons, List.zip_cons_cons, List.map_cons, zip_swp as bs]
    rfl
theorem Bd.neg {q : Rat} {n : Nat} (h : Bd n q) : Bd n (-q) := ⟨by rw [neg_num, Int.natAbs_neg]; exact h.1, by rw [neg_den]; exact h.2⟩
theorem Bd.zero : Bd 1 0 := ⟨by decide, by decide⟩
theorem step_bd {f : List Rat} {w : Rat} {r : List Rat} {n a b : Nat} (hf : ∀ q ∈ f, Bd n q) (hw : Bd a w) (hr : ∀ q ∈ r, Bd b q) : ∀ q ∈ stepR f (w, r), Bd (n + (a + b) + 1) q := by
  intro q hq
  unfold stepR at hq
  obtain ⟨p, hp, rfl⟩ := List.mem_map.mp hq
  obtain ⟨h1, h2⟩ := List.of_mem_zip (a := p.1) (b := p.2) hp
  exact (hf _ h1).add (hw.mul (hr _ h2))
theorem fold_bd {a b : Nat} : ∀ (ps : List (Rat × List Rat)) (f : List Rat) (n : Nat), (∀ q ∈ f, Bd n q) → (∀ p ∈ ps, Bd a p.1 ∧ ∀ q ∈ p.2, Bd b q) → ∀ q ∈ ps.foldl stepR f, Bd (n + (a + b + 1) * ps.length) q
  | [], f, n, hf, _ => fun q hq => hf q hq
  | p :: ps, f, n, hf, h => fun q hq => by
    rw [List.foldl_cons] at hq
    obtain ⟨h1, h2⟩ := h p List.mem_cons_self
    have h3 := fold_bd ps (stepR f p) (n + (a + b) + 1) (step_bd (w := p.1) (r := p.2) hf h1 h2) (fun x hx => h x (List.mem_cons_of_mem _ hx)) q hq
    refine h3.mono ?_
    rw [List.length_cons, Nat.mul_succ]
    omega
theorem vm_bd {ws : List Rat} {rows : List (List Rat)} {w a b k : Nat} (hw : ∀ q ∈ ws, Bd a q) (hr : ∀ r ∈ rows, ∀ q ∈ r, Bd b q) (hk : ws.length ≤ k) : ∀ q ∈ vm ws rows w, Bd (1 + (a + b + 1) * k) q := by
  intro q hq
  have h := fold_bd (a := a) (b := b) (ws.zip rows) (List.replicate w 0) 1 (fun q hq => by rw [List.eq_of_mem_replicate hq]; exact Bd.zero) (fun p hp => by
    obtain ⟨h1, h2⟩ := List.of_mem_zip (a := p.1) (b := p.2) hp
    exact ⟨hw _ h1, hr _ h2⟩) q hq
  refine h.mono (Nat.add_le_add_left (Nat.mul_le_mul_left _ ?_) 1)
  rw [List.length_zip]
  omega
theorem low_bd {t b : Int} {n : Nat} (h1 : t.natAbs < 2 ^ n) (h2 : b.natAbs < 2 ^ n) (h0 : b ≠ 0) : Bd n (Rat.divInt t b) := ⟨Nat.lt_of_le_of_lt (num_le _ _) h1, Nat.lt_of_le_of_lt (den_le h0) h2⟩
/-- mixed, as the law writes it -/
theorem mix_eq (ws : List Rat) (rows : List (List Rat)) (w : Nat) : (rows.zip ws).foldl (fun f p => (f.zip p.1).map fun q => q.1 + -(-p.2) * q.2) (List.replicate w 0) = vm ws rows w := by
  unfold vm
  have e : ws.zip rows = (rows.zip ws).map Prod.swap := zip_swp rows ws
  rw [e, List.foldl_map]
  congr 1
  funext f p
  unfold stepR
  rw [Rat.neg_neg]
  rfl
end LW
end
section
set_option Elab.async false
set_option linter.all false
set_option maxRecDepth 100000
set_option maxHeartbeats 4000000
set_option exponentiation.threshold 20000
/-! k06, part M3: matrices. -/
namespace LW
open Wo
/-- the rows turned -/
def tr (rows : List (List Rat)) : List (List Rat) := (rgI 0 (wd rows)).map fun i => rows.map fun r => r.getD i.toNat 0
/-- rows times others -/
def mm (rows others : List (List Rat)) : List (List Rat) := rows.map fun row => vm row others (wd others)
/-- turned, as the law writes it -/
def ltr (rows : List (List Rat)) (n : Nat) : List (List Rat) := if rows = [] then [] else (rgI 0 n).map fun i => rows.map fun r => r.getD i.toNat 0
/-- m rows of n, each of less than k bits -/
def Ltb (k m n : Nat) (rows : List (List Rat)) : Prop := rows.length = m ∧ (∀ r ∈ rows, r.length = n) ∧ ∀ r ∈ rows, ∀ q ∈ r, Bd k q
def S : Nat → (Nat → Rat) → Rat
  | 0, _ => 0
  | n + 1, h => S n h + h n
theorem S_congr {h g : Nat → Rat} : ∀ {n : Nat}, (∀ k, k < n → h k = g k) → S n h = S n g
  | 0, _ => rfl
  | n + 1, e => by
    show S n h + h n = S n g + g n
    rw [S_congr fun k hk => e k (by omega), e n (by omega)]
theorem S_mul (x : Rat) (h : Nat → Rat) : ∀ n, x * S n h = S n fun k => x * h k
  | 0 => Rat.mul_zero x
  | n + 1 => by
    show x * (S n h + h n) = S n (fun k => x * h k) + x * h n
    rw [Rat.mul_add, S_mul x h n]
theorem S_mulr (x : Rat) (h : Nat → Rat) (n : Nat) : S n h * x = S n fun k => h k * x := by
  rw [Rat.mul_comm, S_mul]
  exact S_congr fun k _ => Rat.mul_comm _ _
theorem S_add (h g : Nat → Rat) : ∀ n, S n h + S n g = S n fun k => h k + g k
  | 0 => by show (0 : Rat) + 0 = 0; rw [Rat.add_zero]
  | n + 1 => by
    show (S n h + h n) + (S n g + g n) = S n (fun k => h k + g k) + (h n + g n)
    rw [← S_add h g n]
    grind
theorem S_zero : ∀ n, S n (fun _ => 0) = 0
  | 0 => rfl
  | n + 1 => by
    show S n (fun _ => 0) + 0 = 0
    rw [S_zero n, Rat.add_zero]
theorem S_swap (f : Nat → Nat → Rat) (n : Nat) : ∀ m, S m (fun i => S n fun j => f i j) = S n fun j => S m fun i => f i j
  | 0 => (S_zero n).symm
  | m + 1 => by
    show S m (fun i => S n fun j => f i j) + (S n fun j => f m j) = S n fun j => (S m fun i => f i j) + f m j
    rw [S_swap f n m, S_add]
def mk (m n : Nat) (f : Nat → Nat → Rat) : List (List Rat) := (List.range m).map fun i => (List.range n).map fun j => f i j
def en (rows : List (List Rat)) (i j : Nat) : Rat := (rows.getD i []).getD j 0
theorem mk_congr {m n : Nat} {f g : Nat → Nat → Rat} (h : ∀ i j, i < m → j < n → f i j = g i j) : mk m n f = mk m n g :=
  List.map_congr_left fun i hi => List.map_congr_left fun j hj => h i j (List.mem_range.mp hi) (List.mem_range.mp hj)
theorem list_eq {α : Type} (l : List α) (d : α) : l = (List.range l.length).map fun i => l.getD i d := by
  apply List.ext_getElem
  · rw [List.length_map, List.length_range]
  · intro i h1 h2
    rw [List.getElem_map, List.getElem_range, List.getD_eq_getElem?_getD, List.getElem?_eq_getElem h1]
    rfl
theorem eq_mk {k m n : Nat} {rows : List (List Rat)} (h : Ltb k m n rows) : rows = mk m n (en rows) := by
  obtain ⟨h1, h2, _⟩ := h
  have e := list_eq rows []
  rw [h1] at e
  refine e.trans (List.map_congr_left fun i hi => ?_)
  have hi' : i < rows.length := by rw [h1]; exact List.mem_range.mp hi
  have hm : rows.getD i [] ∈ rows := by
    rw [List.getD_eq_getElem?_getD, List.getElem?_eq_getElem hi']
    exact List.getElem_mem hi'
  have e2 := list_eq (rows.getD i []) 0
  rw [h2 _ hm] at e2
  exact e2
theorem wd_mk {m n : Nat} {f : Nat → Nat → Rat} (h : 0 < m) : wd (mk m n f) = n := by
  obtain ⟨m, rfl⟩ : ∃ k, m = k + 1 := ⟨m - 1, by omega⟩
  unfold mk
  rw [List.range_succ_eq_map, List.map_cons]
  show ((List.range n).map _).length = n
  rw [List.length_map, List.length_range]
theorem mk_len {m n : Nat} {f : Nat → Nat → Rat} : (mk m n f).length = m := by
  unfold mk
  rw [List.length_map, List.length_range]
theorem mk_zero {n : Nat} {f : Nat → Nat → Rat} : mk 0 n f = [] := rfl
theorem rgI_eq (n : Nat) {α : Type} (f : Int → α) : (rgI 0 n).map f = (List.range n).map fun i => f ((i : Nat) : Int) := by
  unfold rgI
  rw [List.map_map]
  exact List.map_congr_left fun i _ => by show f (0 + (i : Int)) = _; rw [Int.zero_add]
theorem tr_mk {m n : Nat} {f : Nat → Nat → Rat} (h : 0 < m) : tr (mk m n f) = mk n m fun i j => f j i := by
  unfold tr
  rw [wd_mk h, rgI_eq]
  unfold mk
  refine List.map_congr_left fun i hi => ?_
  rw [List.map_map]
  refine List.map_congr_left fun j _ => ?_
  have hi' := List.mem_range.mp hi
  show ((List.range n).map fun k => f j k).getD ((i : Nat) : Int).toNat 0 = f j i
  rw [Int.toNat_natCast, List.getD_eq_getElem?_getD, List.getElem?_eq_getElem (by rw [List.length_map, List.length_range]; exact hi'), List.getElem_map, List.getElem_range]
  rfl
theorem vm_mk (w : Nat → Rat) (g : Nat → Nat → Rat) (c : Nat) : ∀ b, vm ((List.range b).map w) ((List.range b).map fun k => (List.range c).map fun j => g k j) c = (List.range c).map fun j => S b fun k => w k * g k j
  | 0 => by
    show List.replicate c 0 = (List.range c).map fun _ => (0 : Rat)
    rw [List.map_const', List.length_range]
  | b + 1 => by
    unfold vm
    rw [List.range_succ, List.map_append, List.map_append, List.zip_append (by rw [List.length_map, List.length_map]), List.foldl_append]
    have ih := vm_mk w g c b
    unfold vm at ih
    rw [ih]
    show stepR _ (w b, (List.range c).map fun j => g b j) = _
    unfold stepR
    rw [List.zip_map', List.map_map]
    rfl
theorem mm_mk {a b c : Nat} {f g : Nat → Nat → Rat} (hb : 0 < b) : mm (mk a b f) (mk b c g) = mk a c fun i j => S b fun k => f i k * g k j := by
  unfold mm
  rw [wd_mk hb]
  unfold mk
  rw [List.map_map]
  refine List.map_congr_left fun i _ => ?_
  exact vm_mk (fun k => f i k) g c b
theorem mm_assoc {a b c d : Nat} {f g h : Nat → Nat → Rat} (hb : 0 < b) (hc : 0 < c) : mm (mm (mk a b f) (mk b c g)) (mk c d h) = mm (mk a b f) (mm (mk b c g) (mk c d h)) := by
  rw [mm_mk hb, mm_mk hc, mm_mk hc, mm_mk hb]
  refine mk_congr fun i j _ _ => ?_
  rw [show (S c fun k => (S b fun k_1 => f i k_1 * g k_1 k) * h k j) = S c fun k => S b fun k_1 => f i k_1 * g k_1 k * h k j from S_congr fun k _ => S_mulr _ _ _,
    show (S b fun k => f i k * S c fun k_1 => g k k_1 * h k_1 j) = S b fun k => S c fun k_1 => f i k * (g k k_1 * h k_1 j) from S_congr fun k _ => S_mul _ _ _, S_swap]
  exact S_congr fun k _ => S_congr fun l _ => Rat.mul_assoc _ _ _
theorem mm_tr {a b c : Nat} {f g : Nat → Nat → Rat} (ha : 0 < a) (hb : 0 < b) (hc : 0 < c) : tr (mm (mk a b f) (mk b c g)) = mm (tr (mk b c g)) (tr (mk a b f)) := by
  rw [mm_mk hb, tr_mk ha, tr_mk hb, tr_mk ha, mm_mk hb]
  exact mk_congr fun i j _ _ => S_congr fun k _ => Rat.mul_comm _ _
theorem Ltb.wd {k m n : Nat} {rows : List (List Rat)} (h : Ltb k m n rows) (hm : 0 < m) : Wo.wd rows = n := by
  cases rows with
  | nil => have := h.1; simp at this; omega
  | cons r t => exact h.2.1 r List.mem_cons_self
theorem Ltb.few {k m n : Nat} {rows : List (List Rat)} (h : Ltb k m n rows) (hm : m ≤ 8) (hn : n ≤ 8) : Few rows := by
  refine ⟨by rw [h.1]; exact hm, fun r hr => by rw [h.2.1 r hr]; exact hn, fun r hr => ?_⟩
  rw [h.2.1 r hr, h.wd]
  have := List.length_pos_of_mem hr
  rw [h.1] at this
  exact this
theorem Ltb.sm {k m n : Nat} {rows : List (List Rat)} (h : Ltb k m n rows) (hk : k ≤ 66) : ∀ r ∈ rows, ∀ q ∈ r, Sm q := fun r hr q hq => ((h.2.2 r hr q hq).mono hk).sm
theorem vm_len {w : Nat} : ∀ (ps : List (Rat × List Rat)) (f : List Rat), f.length = w → (∀ p ∈ ps, p.2.length = w) → (ps.foldl stepR f).length = w
  | [], f, hf, _ => hf
  | p :: ps, f, hf, h => by
    rw [List.foldl_cons]
    refine vm_len ps _ ?_ fun x hx => h x (List.mem_cons_of_mem _ hx)
    unfold stepR
    rw [List.length_map, List.length_zip, hf, h p List.mem_cons_self, Nat.min_self]
theorem Ltb.mm {k l a b c : Nat} {A B : List (List Rat)} (hA : Ltb k a b A) (hB : Ltb l b c B) (hb : 0 < b) : Ltb (1 + (k + l + 1) * b) a c (LW.mm A B) := by
  unfold LW.mm
  rw [hB.wd hb]
  refine ⟨by rw [List.length_map]; exact hA.1, fun r hr => ?_, fun r hr => ?_⟩
  · obtain ⟨row, _, rfl⟩ := List.mem_map.mp hr
    exact vm_len _ _ List.length_replicate fun p hp => hB.2.1 _ (List.of_mem_zip (a := p.1) (b := p.2) hp).2
  · obtain ⟨row, hrow, rfl⟩ := List.mem_map.mp hr
    exact vm_bd (hA.2.2 row hrow) (fun r hr => hB.2.2 r hr) (by rw [hA.2.1 row hrow]; exact Nat.le_refl _)
theorem Ltb.tr {k a b : Nat} {A : List (List Rat)} (hA : Ltb k a b A) (ha : 0 < a) : Ltb k b a (LW.tr A) := by
  unfold LW.tr
  rw [hA.wd ha]
  refine ⟨by rw [List.length_map, rgI_len], fun r hr => ?_, fun r hr q hq => ?_⟩
  · obtain ⟨i, _, rfl⟩ := List.mem_map.mp hr
    rw [List.length_map]
    exact hA.1
  · obtain ⟨i, hi, rfl⟩ := List.mem_map.mp hr
    obtain ⟨row, hrow, rfl⟩ := List.mem_map.mp hq
    have hi' := rgI_mem.mp hi
    have hlt : i.toNat < row.length := by rw [hA.2.1 row hrow]; omega
    refine hA.2.2 row hrow _ ?_
    rw [List.getD_eq_getElem?_getD, List.getElem?_eq_getElem hlt]
    exact List.getElem_mem hlt
theorem tr_nil : tr [] = [] := rfl
theorem tr_ltr {k a b : Nat} {A : List (List Rat)} (hA : Ltb k a b A) : tr A = ltr A b := by
  unfold ltr
  by_cases h : A = []
  · subst h
    rfl
  · rw [if_neg h]
    unfold tr
    rw [hA.wd (by rw [← hA.1]; exact List.length_pos_iff.mpr h)]
theorem tr_tr {k a b : Nat} {A : List (List Rat)} (hA : Ltb k a b A) (ha : 0 < a) (hb : 0 < b) : tr (tr A) = A := by
  have e := eq_mk hA
  rw [e, tr_mk ha, tr_mk hb]
theorem tr_tr0 {k a b : Nat} {A : List (List Rat)} (hA : Ltb k a b A) (h : a = 0 ∨ b = 0) : tr (tr A) = [] := by
  rcases Nat.eq_zero_or_pos a with ha | ha
  · have : A = [] := List.eq_nil_of_length_eq_zero (by rw [hA.1]; exact ha)
    subst this
    rfl
  · have hb : b = 0 := by omega
    have h2 := (hA.tr ha).1
    rw [hb] at h2
    have : tr A = [] := List.eq_nil_of_length_eq_zero h2
    rw [this]
    rfl
theorem assoc_of {k l j a b c d : Nat} {A B C : List (List Rat)} (hA : Ltb k a b A) (hB : Ltb l b c B) (hC : Ltb j c d C) (hb : 0 < b) (hc : 0 < c) : mm (mm A B) C = mm A (mm B C) := by
  rw [eq_mk hA, eq_mk hB, eq_mk hC]
  exact mm_assoc hb hc
theorem turn_mm {k l a b c : Nat} {A B : List (List Rat)} (hA : Ltb k a b A) (hB : Ltb l b c B) (ha : 0 < a) (hb : 0 < b) (hc : 0 < c) : tr (mm A B) = mm (tr B) (tr A) := by
  rw [eq_mk hA, eq_mk hB]
  exact mm_tr ha hb hc
theorem vm_zero (ws : List Rat) (rows : List (List Rat)) : vm ws rows 0 = [] := by
  unfold vm
  have : ∀ (ps : List (Rat × List Rat)), ps.foldl stepR [] = [] := fun ps => by
    induction ps with
    | nil => rfl
    | cons p ps ih => rw [List.foldl_cons]; exact ih
  exact this _
theorem mm_zero {A B : List (List Rat)} (h : wd B = 0) : mm A B = A.map fun _ => [] := by
  unfold mm
  rw [h]
  exact List.map_congr_left fun r _ => vm_zero r B
end LW
namespace LW
open Wo
theorem tr_lt {k a b : Nat} {A : List (List Rat)} (hA : Ltb k a b A) (ha : a ≤ 8) (hb : b ≤ 8) : ∃ m n, m ≤ 8 ∧ n ≤ 8 ∧ Ltb k m n (tr A) := by
  rcases Nat.eq_zero_or_pos a with h | h
  · have : A = [] := List.eq_nil_of_length_eq_zero (by rw [hA.1]; exact h)
    subst this
    exact ⟨0, 0, by decide, by decide, rfl, (fun r hr => by cases hr), fun r hr => by cases hr⟩
  · exact ⟨b, a, hb, ha, hA.tr h⟩
theorem nil_lt (k : Nat) : Ltb k 0 0 [] := ⟨rfl, (fun r hr => by cases hr), fun r hr => by cases hr⟩
theorem mm_nil {A B : List (List Rat)} (h : B = []) : mm A B = A.map fun _ => [] := mm_zero (by rw [h]; rfl)
theorem AB_lt {a b c : Nat} {A B : List (List Rat)} (hA : Ltb 3 a b A) (hB : Ltb 3 b c B) (hb : b ≤ 4) (hc : c ≤ 8) : ∃ n, n ≤ 8 ∧ Ltb 29 a n (mm A B) := by
  rcases Nat.eq_zero_or_pos b with h | h
  · have : B = [] := List.eq_nil_of_length_eq_zero (by rw [hB.1]; exact h)
    refine ⟨0, by decide, ?_⟩
    rw [mm_nil this]
    refine ⟨by rw [List.length_map]; exact hA.1, fun r hr => ?_, fun r hr q hq => ?_⟩
    · obtain ⟨_, _, rfl⟩ := List.mem_map.mp hr
      rfl
    · obtain ⟨_, _, rfl⟩ := List.mem_map.mp hr
      cases hq
  · have h2 := hA.mm hB h
    exact ⟨c, hc, h2.1, h2.2.1, fun r hr q hq => (h2.2.2 r hr q hq).mono (by omega)⟩
theorem Ltb.mono {k l m n : Nat} {A : List (List Rat)} (h : Ltb k m n A) (hk : k ≤ l) : Ltb l m n A := ⟨h.1, h.2.1, fun r hr q hq => (h.2.2 r hr q hq).mono hk⟩
end LW
end
section
set_option Elab.async false
set_option linter.all false
set_option maxRecDepth 100000
set_option maxHeartbeats 4000000
namespace LW
open PySem PySem.Spec PyProof.Rows L2 Wo
local macro_rules | `(tactic| walk_at "lf") => `(tactic| first | assumption | (refine Up.up (by assumption) ?_; walk_at "lf") | (refine RAll.up (by assumption) ?_; walk_at "lf") | (refine Ob2.up (by assumption) ?_; walk_at "lf"))
local macro_rules | `(tactic| walk_at "side") => `(tactic| first | (unfold CMul; omega) | (unfold CDiv; omega) | (unfold CDivN; omega) | (unfold CPow; omega) | (show (0 : Int) < _; omega) | decide)
local macro_rules | `(tactic| walk_at "rd1") => `(tactic| first
  | ((with_reducible refine rd_var (v := ?v) ?h ?_); (case h => rfl))
  | with_reducible refine rd_c ?_
  | with_reducible refine rd_op ?_
  | with_reducible refine rd_I0 ?_
  | with_reducible refine rd_I ?_ ?_
  | with_reducible refine rd_U ?_
  | with_reducible refine rd_eqI ?_
  | with_reducible refine rd_neI ?_
  | with_reducible refine rd_eqS ?_
  | with_reducible refine rd_neS ?_
  | with_reducible refine rd_un ?_
  | with_reducible refine rd_test ?_
  | with_reducible refine rd_tB ?_
  | with_reducible refine rd_exB ?_
  | with_reducible refine rd_cons ?_
  | with_reducible refine rd_nil ?_
  | with_reducible refine rd_call ?_
  | with_reducible refine rd_cb ?_
  | with_reducible refine rd_seq ?_
  | with_reducible refine rd_asg ?_
  | with_reducible refine rd_gname ?_
  | with_reducible refine rd_ret ?_
  | with_reducible refine rd_ifS ?_
  | with_reducible refine rd_next ?_
  | with_reducible refine rd_drop ?_
  | with_reducible refine rd_if ?_
  | with_reducible refine rd_not ?_
  | with_reducible refine rd_and ?_
  | with_reducible refine rd_or ?_
  | with_reducible refine rd_andV ?_
  | with_reducible refine rd_orV ?_
  | with_reducible refine rd_notV ?_
  | with_reducible refine rd_chain ?_
  | with_reducible refine rd_slot ?_
  | with_reducible refine rd_sst ?_
  | with_reducible refine rd_par ?_
  | with_reducible refine rd_ex2 ?_
  | with_reducible refine rd_gcd ?_
  | with_reducible refine rd_prop ?_
  | with_reducible refine rd_lcm ?_ ?_
  | with_reducible refine rd_forL ?_
  | with_reducible refine rd_forT ?_
  | with_reducible refine rd_forR1 ?_
  | with_reducible refine rd_forZ ?_
  | with_reducible refine rd_lcL ?_
  | with_reducible refine rd_lcT ?_
  | with_reducible refine rd_lcR1 ?_
  | with_reducible refine rd_lcR2 ?_
  | with_reducible refine rd_lcZ ?_
  | with_reducible refine rd_lc2TT ?_
  | with_reducible refine rd_abs ?_
  | with_reducible refine rd_int ?_
  | with_reducible refine rd_intB ?_
  | with_reducible refine rd_max2 ?_
  | with_reducible refine rd_min2 ?_
  | with_reducible refine rd_tup ?_
  | with_reducible refine rd_lst ?_
  | with_reducible refine ite_T ?_
  | with_reducible refine ite_n ?_
  | with_reducible refine ite_y ?_
  | with_reducible refine ite_F ?_
  | with_reducible refine rd_retN ?_)
local macro_rules | `(tactic| walk_at "rd") => `(tactic| repeat walk_at "rd1")
section
variable {P : Program} {w : World} {K : PySem.W.Frag} {mg : Str → Option Value} {base : Heap}
def sp_Lowest___init__ (K : PySem.W.Frag) : Sp := sp_init2 (gA "Lowest" K)
abbrev n_Lowest___init__ : List Str := ["self", "top", "bottom"]
theorem sc_Lowest___init__ : FnScope n_Lowest___init__ ["self", "top", "bottom"] (defScope s_Lowest___init__) := ⟨rfl, rfl, rfl, by decide +kernel, rfl, by decide +kernel, by decide +kernel⟩
theorem cal_Lowest___init__ (T : Tx K mg) : FnR P w K mg base (CXW P w) 1 (mA "Lowest" "__init__" K) (sp_Lowest___init__ K) := by
  refine fnR_of (k := 0) T.D_Lowest___init__ sc_Lowest___init__ (fun _ _ _ _ _ _ us hl => match us, hl with | [_, _, _], _ => rfl) (fun vs H Q E h => ?_) (fun cdv A outer s H vs Q E hr h => ?_)
  · obtain ⟨v0, v1, v2, rfl, _⟩ := h
    rfl
  obtain ⟨v0, v1, v2, rfl, h⟩ := h
  refine ⟨_, pss_cons (SlX.ps_sl (pv 0) (pv 1))
      (pss_one (SlX.ps_sl (pv 0) (pv 2))), ?_⟩
  obtain ⟨y, dx, rfl, hne, hy, k⟩ := h
  obtain ⟨p0, q0⟩ := T.C_Lowest.s0
  obtain ⟨p1, q1⟩ := T.C_Lowest.s1
  walk_at "rd"
  refine ⟨y, _, dx, _, [], _, rfl, .inl ⟨hy, rfl⟩, T.C_Lowest.cl, q1, ?_⟩
  walk_at "rd"
  refine ⟨y, _, dx, _, _, _, rfl, SlX.slH_slt hne, T.C_Lowest.cl, q0, ?_⟩
  rw [SlX.slH_twice hne]
  exact k _ (SlX.slH_slt hne) fun c o e h1 h2 => by rw [SlX.slH_ne h1 h2]; exact e
def sp_Lowest (K : PySem.W.Frag) : Sp := sp2 fun a b H Q _ => ∀ v H', Same H H' → Ob2 (gA "Lowest" K) H' v b a → Q v H'
theorem ctor_Lowest (T : Tx K mg) : Ctor P w K mg base 1 "Lowest" (sp_Lowest K) := ctor2 T.G_Lowest T.C_Lowest (cal_Lowest___init__ T)
/-- the lowest terms of t / b -/
def sp_lowest_of (K : PySem.W.Frag) : Sp := sp2 fun x y H Q _ => ∃ t b : Int, x = .int t ∧ y = .int b ∧ b ≠ 0 ∧ b.natAbs < 2 ^ 8999 ∧ ∀ v H', Same H H' → RQ (gA "Lowest" K) H' v (Rat.divInt t b) → Q v H'
abbrev n_lowest_of : List Str := ["top", "bottom", "shared"]
theorem sc_lowest_of : FnScope n_lowest_of ["top", "bottom"] (defScope s_lowest_of) := ⟨rfl, rfl, rfl, by decide +kernel, rfl, by decide +kernel, by decide +kernel⟩
theorem cal_lowest_of (T : Tx K mg) : Cal P w K mg base 3 "lowest_of" (sp_lowest_of K) := by
  refine cal_of (k := 2) T.G_lowest_of T.D_lowest_of sc_lowest_of (fun _ _ _ _ _ _ us hl => match us, hl with | [_, _], _ => rfl) (fun vs H Q E h => ?_) (fun cdv A outer s H vs Q E hr h => ?_)
  · obtain ⟨v0, v1, rfl, _⟩ := h
    rfl
  obtain ⟨v0, v1, rfl, h⟩ := h
  refine ⟨_, pss_cons (ps_set (i := 2) sc_lowest_of.nd rfl (by first | exact Or.inl rfl | exact Or.inr rfl) (pe_callBfun cr_gcd (by rfl) T.B_gcd (pa_cons (pv 0) (pa_cons (pv 1) pa_nil))))
      (pss_cons (ps_if (pt_cmpR op_lt (pv 1) pe_int (nomark _))
        (pss_one (ps_set (i := 2) sc_lowest_of.nd rfl (by first | exact Or.inl rfl | exact Or.inr rfl) (pe_un un_neg (pv 2))))
        (pss_nil))
      (pss_one (ps_ret (pm (ctor_Lowest T) hr (pa_cons (pe_op op_fdivA (pv 0) (pv 2)) (pa_cons (pe_op op_fdivA (pv 1) (pv 2)) pa_nil)))))), ?_⟩
  obtain ⟨t, b, rfl, rfl, hb, hs, k⟩ := h
  obtain ⟨g1, g2, g3⟩ := gcd_lt2 (t := t) hb hs
  walk_at "rd"
  refine ite_dec (fun hn => ?_) (fun hn => ?_)
  · walk_at "rd"
    · exact ⟨_, _, rfl, fun v H' e hv => k v H' e (by unfold RQ; rw [low_numN hn, low_denN hn]; exact hv)⟩
    · exact div_of (by omega) g2
    · exact div_of (by omega) g2
  · walk_at "rd"
    · exact ⟨_, _, rfl, fun v H' e hv => k v H' e (by unfold RQ; rw [low_num (by omega), low_den (by omega)]; exact hv)⟩
    · exact div_of g3 g1
    · exact div_of g3 g1
end
end LW
end
section
set_option Elab.async false
set_option linter.all false
set_option maxRecDepth 100000
set_option maxHeartbeats 4000000
namespace LW
open PySem PySem.Spec PyProof.Rows L2 Wo
local macro_rules | `(tactic| walk_at "lf") => `(tactic| first | assumption | (refine Up.up (by assumption) ?_; walk_at "lf") | (refine RAll.up (by assumption) ?_; walk_at "lf") | (refine Ob2.up (by assumption) ?_; walk_at "lf"))
local macro_rules | `(tactic| walk_at "side") => `(tactic| first | (unfold CMul; omega) | (unfold CDiv; omega) | (unfold CDivN; omega) | (unfold CPow; omega) | (show (0 : Int) < _; omega) | decide)
local macro_rules | `(tactic| walk_at "rd1") => `(tactic| first
  | ((with_reducible refine rd_var (v := ?v) ?h ?_); (case h => rfl))
  | with_reducible refine rd_c ?_
  | with_reducible refine rd_op ?_
  | with_reducible refine rd_I0 ?_
  | with_reducible refine rd_I ?_ ?_
  | with_reducible refine rd_U ?_
  | with_reducible refine rd_eqI ?_
  | with_reducible refine rd_neI ?_
  | with_reducible refine rd_eqS ?_
  | with_reducible refine rd_neS ?_
  | with_reducible refine rd_un ?_
  | with_reducible refine rd_test ?_
  | with_reducible refine rd_tB ?_
  | with_reducible refine rd_exB ?_
  | with_reducible refine rd_cons ?_
  | with_reducible refine rd_nil ?_
  | with_reducible refine rd_call ?_
  | with_reducible refine rd_cb ?_
  | with_reducible refine rd_seq ?_
  | with_reducible refine rd_asg ?_
  | with_reducible refine rd_gname ?_
  | with_reducible refine rd_ret ?_
  | with_reducible refine rd_ifS ?_
  | with_reducible refine rd_next ?_
  | with_reducible refine rd_drop ?_
  | with_reducible refine rd_if ?_
  | with_reducible refine rd_not ?_
  | with_reducible refine rd_and ?_
  | with_reducible refine rd_or ?_
  | with_reducible refine rd_andV ?_
  | with_reducible refine rd_orV ?_
  | with_reducible refine rd_notV ?_
  | with_reducible refine rd_chain ?_
  | with_reducible refine rd_slot ?_
  | with_reducible refine rd_sst ?_
  | with_reducible refine rd_par ?_
  | with_reducible refine rd_ex2 ?_
  | with_reducible refine rd_gcd ?_
  | with_reducible refine rd_prop ?_
  | with_reducible refine rd_lcm ?_ ?_
  | with_reducible refine rd_forL ?_
  | with_reducible refine rd_forT ?_
  | with_reducible refine rd_forR1 ?_
  | with_reducible refine rd_forZ ?_
  | with_reducible refine rd_lcL ?_
  | with_reducible refine rd_lcT ?_
  | with_reducible refine rd_lcR1 ?_
  | with_reducible refine rd_lcR2 ?_
  | with_reducible refine rd_lcZ ?_
  | with_reducible refine rd_lc2TT ?_
  | with_reducible refine rd_abs ?_
  | with_reducible refine rd_int ?_
  | with_reducible refine rd_intB ?_
  | with_reducible refine rd_max2 ?_
  | with_reducible refine rd_min2 ?_
  | with_reducible refine rd_tup ?_
  | with_reducible refine rd_lst ?_
  | with_reducible refine ite_T ?_
  | with_reducible refine ite_n ?_
  | with_reducible refine ite_y ?_
  | with_reducible refine ite_F ?_
  | with_reducible refine rd_retN ?_)
local macro_rules | `(tactic| walk_at "rd") => `(tactic| repeat walk_at "rd1")
section
variable {P : Program} {w : World} {K : PySem.W.Frag} {mg : Str → Option Value} {base : Heap}
def sp_is_integer (K : PySem.W.Frag) : Sp := sp1 fun x H Q _ => ∃ i : Int, x = .int i ∧ Q (.bl (decide (-(10 ^ 60) < i ∧ i < 10 ^ 60))) H
abbrev n_is_integer : List Str := ["value"]
theorem sc_is_integer : FnScope n_is_integer ["value"] (defScope s_is_integer) := ⟨rfl, rfl, rfl, by decide +kernel, rfl, by decide +kernel, by decide +kernel⟩
theorem cal_is_integer (T : Tx K mg) : Cal P w K mg base 1 "is_integer" (sp_is_integer K) := by
  refine cal_of (k := 0) T.G_is_integer T.D_is_integer sc_is_integer (fun _ _ _ _ _ _ us hl => match us, hl with | [_], _ => rfl) (fun vs H Q E h => ?_) (fun cdv A outer s H vs Q E hr h => ?_)
  · obtain ⟨v0, rfl, _⟩ := h
    rfl
  obtain ⟨v0, rfl, h⟩ := h
  refine ⟨_, pss_one (ps_ret (pe_and (pe_callB isi (by rfl) T.N_isinstance (by decide +kernel) (pa_cons (pv 0) (pa_cons (pe_bltn (v := .ty "int") (by rfl) T.N_int (by decide +kernel) rfl) pa_nil))) (pe_and (pe_not (pe_callB isi (by rfl) T.N_isinstance (by decide +kernel) (pa_cons (pv 0) (pa_cons (pe_bltn (v := .ty "bool") (by rfl) T.N_bool (by decide +kernel) rfl) pa_nil)))) (pe_one (pe_chain op_lt op_lt (pe_un un_neg (pe_gI T.I_GREAT_plain)) (pv 0) (pe_gI T.I_GREAT_plain)))))), ?_⟩
  obtain ⟨i, rfl, k⟩ := h
  walk_at "rd"
  refine rd_isiY HasTy.int ?_ (.ty "int")
  walk_at "rd"
  refine rd_isiN HasTy.int ?_ (.ty "bool")
  walk_at "rd"
  refine ite_dec (fun h1 => ?_) (fun h1 => ?_)
  · walk_at "rd"
    have e : decide (i < 10 ^ 60) = decide (-(10 ^ 60) < i ∧ i < 10 ^ 60) := decide_eq_decide.mpr ⟨fun h => ⟨h1, h⟩, fun h => h.2⟩
    rw [e]
    exact k
  · rw [decide_eq_false (fun h => h1 h.1)] at k
    exact k
theorem is_integer_yes {i : Int} {H : Hp} {Q : VK} (h : -(10 ^ 60) < i ∧ i < 10 ^ 60) (q : Q (.bl true) H) : sp_is_integer K [.int i] H Q E0 := ⟨_, rfl, i, rfl, by rw [decide_eq_true h]; exact q⟩
def sp_told_lowest (K : PySem.W.Frag) : Sp := sp2 fun x y H Q _ => ∃ t b : Int, x = .int t ∧ y = .int b ∧ b ≠ 0 ∧ (-(10 ^ 60) < t ∧ t < 10 ^ 60) ∧ (-(10 ^ 60) < b ∧ b < 10 ^ 60) ∧ ∀ v H', Same H H' → RQ (gA "Lowest" K) H' v (Rat.divInt t b) → Q v H'
abbrev n_told_lowest : List Str := ["top", "bottom"]
theorem sc_told_lowest : FnScope n_told_lowest ["top", "bottom"] (defScope s_told_lowest) := ⟨rfl, rfl, rfl, by decide +kernel, rfl, by decide +kernel, by decide +kernel⟩
theorem cal_told_lowest (T : Tx K mg) : Cal P w K mg base 4 "told_lowest" (sp_told_lowest K) := by
  refine cal_of (k := 3) T.G_told_lowest T.D_told_lowest sc_told_lowest (fun _ _ _ _ _ _ us hl => match us, hl with | [_, _], _ => rfl) (fun vs H Q E h => ?_) (fun cdv A outer s H vs Q E hr h => ?_)
  · obtain ⟨v0, v1, rfl, _⟩ := h
    rfl
  obtain ⟨v0, v1, rfl, h⟩ := h
  refine ⟨_, pss_cons (ps_if (pt_not (pt_val (pc (cal_is_integer T) hr (pa_cons (pv 0) pa_nil))))
        (pss_one ps_never)
        (pss_nil))
      (pss_cons (ps_if (PW.pt (pw_or (pt_not (pt_val (pc (cal_is_integer T) hr (pa_cons (pv 1) pa_nil)))) (pw_or1 (pt_cmpR op_eq (pv 1) pe_int (nomark _)))))
        (pss_one ps_never)
        (pss_nil))
      (pss_one (ps_ret (pc (cal_lowest_of T) hr (pa_cons (pv 0) (pa_cons (pv 1) pa_nil)))))), ?_⟩
  obtain ⟨t, b, rfl, rfl, hb, ht, hb2, k⟩ := h
  walk_at "rd"
  refine is_integer_yes ht ?_
  walk_at "rd"
  refine is_integer_yes hb2 ?_
  walk_at "rd"
  refine ite_f (decide_eq_false hb) ?_
  walk_at "rd"
  exact ⟨_, _, rfl, t, b, rfl, rfl, hb, by omega, k⟩
end
end LW
end
section
set_option Elab.async false
set_option linter.all false
set_option maxRecDepth 100000
set_option maxHeartbeats 4000000
namespace LW
open PySem PySem.Spec PyProof.Rows L2 Wo
local macro_rules | `(tactic| walk_at "lf") => `(tactic| first | assumption | (refine Up.up (by assumption) ?_; walk_at "lf") | (refine RAll.up (by assumption) ?_; walk_at "lf") | (refine Ob2.up (by assumption) ?_; walk_at "lf"))
local macro_rules | `(tactic| walk_at "side") => `(tactic| first | (unfold CMul; omega) | (unfold CDiv; omega) | (unfold CDivN; omega) | (unfold CPow; omega) | (show (0 : Int) < _; omega) | decide)
local macro_rules | `(tactic| walk_at "rd1") => `(tactic| first
  | ((with_reducible refine rd_var (v := ?v) ?h ?_); (case h => rfl))
  | with_reducible refine rd_c ?_
  | with_reducible refine rd_op ?_
  | with_reducible refine rd_I0 ?_
  | with_reducible refine rd_I ?_ ?_
  | with_reducible refine rd_U ?_
  | with_reducible refine rd_eqI ?_
  | with_reducible refine rd_neI ?_
  | with_reducible refine rd_eqS ?_
  | with_reducible refine rd_neS ?_
  | with_reducible refine rd_un ?_
  | with_reducible refine rd_test ?_
  | with_reducible refine rd_tB ?_
  | with_reducible refine rd_exB ?_
  | with_reducible refine rd_cons ?_
  | with_reducible refine rd_nil ?_
  | with_reducible refine rd_call ?_
  | with_reducible refine rd_cb ?_
  | with_reducible refine rd_seq ?_
  | with_reducible refine rd_asg ?_
  | with_reducible refine rd_gname ?_
  | with_reducible refine rd_ret ?_
  | with_reducible refine rd_ifS ?_
  | with_reducible refine rd_next ?_
  | with_reducible refine rd_drop ?_
  | with_reducible refine rd_if ?_
  | with_reducible refine rd_not ?_
  | with_reducible refine rd_and ?_
  | with_reducible refine rd_or ?_
  | with_reducible refine rd_andV ?_
  | with_reducible refine rd_orV ?_
  | with_reducible refine rd_notV ?_
  | with_reducible refine rd_chain ?_
  | with_reducible refine rd_slot ?_
  | with_reducible refine rd_sst ?_
  | with_reducible refine rd_par ?_
  | with_reducible refine rd_ex2 ?_
  | with_reducible refine rd_gcd ?_
  | with_reducible refine rd_prop ?_
  | with_reducible refine rd_sub ?_
  | with_reducible refine rd_lcm ?_ ?_
  | with_reducible refine rd_forL ?_
  | with_reducible refine rd_forT ?_
  | with_reducible refine rd_forR1 ?_
  | with_reducible refine rd_forZ ?_
  | with_reducible refine rd_lcL ?_
  | with_reducible refine rd_lcT ?_
  | with_reducible refine rd_lcR1 ?_
  | with_reducible refine rd_lcR2 ?_
  | with_reducible refine rd_lcZ ?_
  | with_reducible refine rd_lc2TT ?_
  | with_reducible refine rd_abs ?_
  | with_reducible refine rd_int ?_
  | with_reducible refine rd_intB ?_
  | with_reducible refine rd_max2 ?_
  | with_reducible refine rd_min2 ?_
  | with_reducible refine rd_tup ?_
  | with_reducible refine rd_lst ?_
  | with_reducible refine ite_T ?_
  | with_reducible refine ite_n ?_
  | with_reducible refine ite_y ?_
  | with_reducible refine ite_F ?_
  | with_reducible refine rd_retN ?_)
local macro_rules | `(tactic| walk_at "rd") => `(tactic| repeat walk_at "rd1")
section
variable {P : Program} {w : World} {K : PySem.W.Frag} {mg : Str → Option Value} {base : Heap}
def sp_Ratio___init__ (K : PySem.W.Frag) : Sp := sp3 fun s x z H Q _ => ∃ y dx q, s = .ref y ∧ dx ≠ y ∧ H y = some (.ins (gA "Ratio" K) dx []) ∧ H dx = some (.own y) ∧
  (RQ (gA "Lowest" K) H x q ∨ ∃ t b : Int, x = .int t ∧ z = .int b ∧ b ≠ 0 ∧ (-(10 ^ 60) < t ∧ t < 10 ^ 60) ∧ (-(10 ^ 60) < b ∧ b < 10 ^ 60) ∧ q = Rat.divInt t b) ∧
  ∀ H', RQ (gA "Ratio" K) H' (.ref y) q → (∀ c o, H c = some o → c ≠ y → c ≠ dx → H' c = some o) → Q .non H'
abbrev n_Ratio___init__ : List Str := ["self", "top", "bottom", "lowest"]
theorem sc_Ratio___init__ : FnScope n_Ratio___init__ ["self", "top", "bottom"] (defScope s_Ratio___init__) := ⟨rfl, rfl, rfl, by decide +kernel, rfl, by decide +kernel, by decide +kernel⟩
theorem cal_Ratio___init__ (T : Tx K mg) : FnR P w K mg base (CXW P w) 5 (mA "Ratio" "__init__" K) (fun vs H Q E => sp_Ratio___init__ K vs H Q E ∨ sp_Ratio___init__ K (vs ++ [.int 1]) H Q E) := by
  refine fnR_ofD (k := 4) (sp := sp_Ratio___init__ K) T.D_Ratio___init__ sc_Ratio___init__ rfl 2 rfl (fun _ _ _ _ _ _ _ us its hl hl2 => match us, hl, its, hl2 with | [_, _], _, [_], _ => ⟨_, rfl, rfl⟩) (fun _ _ _ _ _ _ _ us its hl hl2 => match us, hl, its, hl2 with | [_, _, _], _, [_], _ => ⟨_, rfl, rfl⟩) (fun vs H Q E h => ?_) (fun cdv A outer s H vs Q E hr h => ?_)
  · obtain ⟨v0, v1, v2, rfl, _⟩ := h
    rfl
  obtain ⟨v0, v1, v2, rfl, h⟩ := h
  refine ⟨_, pss_cons (ps_set (i := 3) sc_Ratio___init__.nd rfl (by first | exact Or.inl rfl | exact Or.inr rfl) (pe_ifExp (pt_val (pe_callB (kIsi K) (by rfl) T.N_isinstance (by decide +kernel) (pa_cons (pv 1) (pa_cons (pe_gC T.G_Lowest) pa_nil)))) (pv 1) (pc (cal_told_lowest T) hr (pa_cons (pv 1) (pa_cons (pv 2) pa_nil)))))
      (pss_cons (SlX.ps_sl (pv 0) (kSl K (pv 3)))
      (pss_one (SlX.ps_sl (pv 0) (kSl K (pv 3))))), ?_⟩
  obtain ⟨y, dx, q, rfl, hne, hy, hdx, hx, k⟩ := h
  obtain ⟨p0, q0⟩ := T.C_Ratio.s0
  obtain ⟨p1, q1⟩ := T.C_Ratio.s1
  walk_at "rd"
  rcases hx with hx | ⟨t, b, rfl, rfl, hb, h1, h2, rfl⟩
  case' inl =>
    refine rd_isiY (HasTy.ob T.C_Lowest hx) ?_ (.own _) T.K_Lowest_Lowest
    walk_at "rd"
    have e := Same.refl H
    have hv := hx
  case' inr =>
    refine rd_isiN HasTy.int ?_ (.own _) T.K_int_Lowest
    walk_at "rd"
    refine ⟨_, _, rfl, t, b, rfl, rfl, hb, h1, h2, fun v H' e hv => ?_⟩
    walk_at "rd"
  all_goals
    refine rd_top T.C_Lowest hv ?_
    walk_at "rd"
    refine ⟨y, _, dx, _, [], _, rfl, .inl ⟨e _ _ hy, rfl⟩, T.C_Ratio.cl, q1, ?_⟩
    walk_at "rd"
    refine rd_bot T.C_Lowest (rq_slH hv (e _ _ hy) (e _ _ hdx)) ?_
    walk_at "rd"
    refine ⟨y, _, dx, _, _, _, rfl, SlX.slH_slt hne, T.C_Ratio.cl, q0, ?_⟩
    rw [SlX.slH_twice hne]
    exact k _ ⟨y, dx, rfl, SlX.slH_slt hne⟩ fun c o h e1 e2 => by rw [SlX.slH_ne e1 e2]; exact e _ _ h
/-- Ratio(x), Ratio(t, b) -/
def sp_Ratio (K : PySem.W.Frag) : Sp := fun vs H Q _ => ∃ x z q, (vs = [x, z] ∨ (vs = [x] ∧ z = .int 1)) ∧
  (RQ (gA "Lowest" K) H x q ∨ ∃ t b : Int, x = .int t ∧ z = .int b ∧ b ≠ 0 ∧ (-(10 ^ 60) < t ∧ t < 10 ^ 60) ∧ (-(10 ^ 60) < b ∧ b < 10 ^ 60) ∧ q = Rat.divInt t b) ∧
  ∀ v H', Same H H' → RQ (gA "Ratio" K) H' v q → Q v H'
theorem ctor_Ratio (T : Tx K mg) : Ctor P w K mg base 5 "Ratio" (sp_Ratio K) := by
  refine ⟨_, _, _, T.G_Ratio, T.C_Ratio.make, cal_Ratio___init__ T, fun vs H Q E h y dx h1 h2 h3 => ?_⟩
  obtain ⟨x, z, q, hv, hx, k⟩ := h
  have st : Same H (upd (upd H dx (.own y)) y (.ins (gA "Ratio" K) dx [])) := fun c o e => by
    rw [upd_ne (ne_of_none e h1), upd_ne (ne_of_none e h2)]
    exact e
  have main : sp_Ratio___init__ K [.ref y, x, z] (upd (upd H dx (.own y)) y (.ins (gA "Ratio" K) dx [])) (fun v H2 => v = .non ∧ Q (.ref y) H2) E := by
    refine ⟨_, _, _, rfl, y, dx, q, rfl, h3, upd_same, by rw [upd_ne h3, upd_same], hx.imp (fun r => Up.up st r) id, fun H' r hk => ⟨rfl, k _ H' (fun c o e => ?_) r⟩⟩
    have n1 := ne_of_none e h1
    have n2 := ne_of_none e h2
    exact hk c o (by rw [upd_ne n1, upd_ne n2]; exact e) n1 n2
  rcases hv with rfl | ⟨rfl, rfl⟩
  · exact .inl main
  · exact .inr main
def sp_Ratio_top (K : PySem.W.Frag) : Sp := sp1 fun x H Q _ => ∃ q, RQ (gA "Ratio" K) H x q ∧ Q (.int q.num) H
abbrev n_Ratio_top : List Str := ["self"]
theorem sc_Ratio_top : FnScope n_Ratio_top ["self"] (defScope s_Ratio_top) := ⟨rfl, rfl, rfl, by decide +kernel, rfl, by decide +kernel, by decide +kernel⟩
theorem cal_Ratio_top (T : Tx K mg) : FnR P w K mg base (CXW P w) 1 (rA "property" "Ratio" "top" K) (sp_Ratio_top K) := by
  refine fnR_of (k := 0) T.D_Ratio_top sc_Ratio_top (fun _ _ _ _ _ _ us hl => match us, hl with | [_], _ => rfl) (fun vs H Q E h => ?_) (fun cdv A outer s H vs Q E hr h => ?_)
  · obtain ⟨v0, rfl, _⟩ := h
    rfl
  obtain ⟨v0, rfl, h⟩ := h
  refine ⟨_, pss_one (ps_ret (kSl K (pv 0))), ?_⟩
  obtain ⟨q, hq, k⟩ := h
  walk_at "rd"
  refine rd_top T.C_Ratio hq ?_
  exact k
def sp_Ratio_bottom (K : PySem.W.Frag) : Sp := sp1 fun x H Q _ => ∃ q, RQ (gA "Ratio" K) H x q ∧ Q (.int q.den) H
abbrev n_Ratio_bottom : List Str := ["self"]
theorem sc_Ratio_bottom : FnScope n_Ratio_bottom ["self"] (defScope s_Ratio_bottom) := ⟨rfl, rfl, rfl, by decide +kernel, rfl, by decide +kernel, by decide +kernel⟩
theorem cal_Ratio_bottom (T : Tx K mg) : FnR P w K mg base (CXW P w) 1 (rA "property" "Ratio" "bottom" K) (sp_Ratio_bottom K) := by
  refine fnR_of (k := 0) T.D_Ratio_bottom sc_Ratio_bottom (fun _ _ _ _ _ _ us hl => match us, hl with | [_], _ => rfl) (fun vs H Q E h => ?_) (fun cdv A outer s H vs Q E hr h => ?_)
  · obtain ⟨v0, rfl, _⟩ := h
    rfl
  obtain ⟨v0, rfl, h⟩ := h
  refine ⟨_, pss_one (ps_ret (kSl K (pv 0))), ?_⟩
  obtain ⟨q, hq, k⟩ := h
  walk_at "rd"
  refine rd_bot T.C_Ratio hq ?_
  exact k
theorem prop_Ratio_top (T : Tx K mg) : Prp P w K mg base 1 (gA "Ratio" K) "top" (sp_Ratio_top K) := ⟨_, T.P_Ratio_top, T.C_Ratio.cl, cal_Ratio_top T⟩
theorem prop_Ratio_bottom (T : Tx K mg) : Prp P w K mg base 1 (gA "Ratio" K) "bottom" (sp_Ratio_bottom K) := ⟨_, T.P_Ratio_bottom, T.C_Ratio.cl, cal_Ratio_bottom T⟩
/-- t / b, the parts below 10 ^ 2000 -/
def sp_ratio_from (K : PySem.W.Frag) : Sp := sp2 fun x y H Q _ => ∃ t b : Int, x = .int t ∧ y = .int b ∧ b ≠ 0 ∧ b.natAbs < 2 ^ 8999 ∧ (Rat.divInt t b).num.natAbs < 10 ^ 2000 ∧ (Rat.divInt t b).den < 10 ^ 2000 ∧ ∀ v H', Same H H' → RQ (gA "Ratio" K) H' v (Rat.divInt t b) → Q v H'
abbrev n_ratio_from : List Str := ["top", "bottom", "lowest"]
theorem sc_ratio_from : FnScope n_ratio_from ["top", "bottom"] (defScope s_ratio_from) := ⟨rfl, rfl, rfl, by decide +kernel, rfl, by decide +kernel, by decide +kernel⟩
theorem cal_ratio_from (T : Tx K mg) : Cal P w K mg base 7 "ratio_from" (sp_ratio_from K) := by
  refine cal_of (k := 6) T.G_ratio_from T.D_ratio_from sc_ratio_from (fun _ _ _ _ _ _ us hl => match us, hl with | [_, _], _ => rfl) (fun vs H Q E h => ?_) (fun cdv A outer s H vs Q E hr h => ?_)
  · obtain ⟨v0, v1, rfl, _⟩ := h
    rfl
  obtain ⟨v0, v1, rfl, h⟩ := h
  refine ⟨_, pss_cons (ps_set (i := 2) sc_ratio_from.nd rfl (by first | exact Or.inl rfl | exact Or.inr rfl) (pc (cal_lowest_of T) hr (pa_cons (pv 0) (pa_cons (pv 1) pa_nil))))
      (pss_cons (ps_if (PW.pt (pw_or (pt_cmpR op_ge (pe_callB bi_abs (by rfl) T.N_abs (by decide +kernel) (pa_cons (kSl K (pv 2)) pa_nil)) (pe_gI T.I_FIRST_TOO_GREAT) (nomark _)) (pw_or1 (pt_cmpR op_ge (kSl K (pv 2)) (pe_gI T.I_FIRST_TOO_GREAT) (nomark _)))))
        (pss_one ps_never)
        (pss_nil))
      (pss_one (ps_ret (pm (ctor_Ratio T) hr (pa_cons (pv 2) pa_nil))))), ?_⟩
  obtain ⟨t, b, rfl, rfl, hb, hs, h1, h2, k⟩ := h
  walk_at "rd"
  refine ⟨_, _, rfl, t, b, rfl, rfl, hb, hs, fun v H' e hv => ?_⟩
  walk_at "rd"
  refine rd_top T.C_Lowest hv ?_
  walk_at "rd"
  refine ite_f (decide_eq_false (by rw [show ((10 : Int) ^ 50) ^ 40 = 10 ^ 2000 by rw [← Int.pow_mul]]; omega)) ?_
  walk_at "rd"
  refine rd_bot T.C_Lowest hv ?_
  walk_at "rd"
  refine ite_f (decide_eq_false (by rw [show ((10 : Int) ^ 50) ^ 40 = 10 ^ 2000 by rw [← Int.pow_mul]]; omega)) ?_
  walk_at "rd"
  exact ⟨_, .int 1, _, .inr ⟨rfl, rfl⟩, .inl hv, fun v H'' e' hv' => k v H'' (e.trans e') hv'⟩
def sp_is_ratio (K : PySem.W.Frag) : Sp := sp1 fun x H Q _ => ∃ q, RQ (gA "Ratio" K) H x q ∧ Q (.bl true) H
abbrev n_is_ratio : List Str := ["value"]
theorem sc_is_ratio : FnScope n_is_ratio ["value"] (defScope s_is_ratio) := ⟨rfl, rfl, rfl, by decide +kernel, rfl, by decide +kernel, by decide +kernel⟩
theorem cal_is_ratio (T : Tx K mg) : Cal P w K mg base 1 "is_ratio" (sp_is_ratio K) := by
  refine cal_of (k := 0) T.G_is_ratio T.D_is_ratio sc_is_ratio (fun _ _ _ _ _ _ us hl => match us, hl with | [_], _ => rfl) (fun vs H Q E h => ?_) (fun cdv A outer s H vs Q E hr h => ?_)
  · obtain ⟨v0, rfl, _⟩ := h
    rfl
  obtain ⟨v0, rfl, h⟩ := h
  refine ⟨_, pss_one (ps_ret (pe_callB (kIsi K) (by rfl) T.N_isinstance (by decide +kernel) (pa_cons (pv 0) (pa_cons (pe_gC T.G_Ratio) pa_nil)))), ?_⟩
  obtain ⟨q, hq, k⟩ := h
  walk_at "rd"
  exact rd_isiY (HasTy.rq T.C_Ratio hq) k (.own _) T.K_Ratio_Ratio
def sp_Ratio___eq__ (K : PySem.W.Frag) : Sp := sp_eqQ (gA "Ratio" K)
abbrev n_Ratio___eq__ : List Str := ["self", "other"]
theorem sc_Ratio___eq__ : FnScope n_Ratio___eq__ ["self", "other"] (defScope s_Ratio___eq__) := ⟨rfl, rfl, rfl, by decide +kernel, rfl, by decide +kernel, by decide +kernel⟩
theorem cal_Ratio___eq__ (T : Tx K mg) : FnR P w K mg base (CXW P w) 1 (mA "Ratio" "__eq__" K) (sp_Ratio___eq__ K) := by
  refine fnR_of (k := 0) T.D_Ratio___eq__ sc_Ratio___eq__ (fun _ _ _ _ _ _ us hl => match us, hl with | [_, _], _ => rfl) (fun vs H Q E h => ?_) (fun cdv A outer s H vs Q E hr h => ?_)
  · obtain ⟨v0, v1, rfl, _⟩ := h
    rfl
  obtain ⟨v0, v1, rfl, h⟩ := h
  refine ⟨_, pss_one (ps_ret (pe_and (pe_callB (kIsi K) (by rfl) T.N_isinstance (by decide +kernel) (pa_cons (pv 1) (pa_cons (pe_gC T.G_Ratio) pa_nil))) (pe_and (pe_cmpR op_eq (kSl K (pv 0)) (kSl K (pv 1)) (nomark _)) (pe_one (pe_cmpR op_eq (kSl K (pv 0)) (kSl K (pv 1)) (nomark _)))))), ?_⟩
  obtain ⟨q, r, hq, hr', k⟩ := h
  walk_at "rd"
  refine rd_isiY (HasTy.rq T.C_Ratio hr') ?_ (.own _) T.K_Ratio_Ratio
  walk_at "rd"
  refine rd_top T.C_Ratio hq ?_
  walk_at "rd"
  refine rd_top T.C_Ratio hr' ?_
  walk_at "rd"
  refine ite_dec (fun hn => ?_) (fun hn => ?_)
  · walk_at "rd"
    refine rd_bot T.C_Ratio hq ?_
    walk_at "rd"
    refine rd_bot T.C_Ratio hr' ?_
    walk_at "rd"
    have e : decide ((q.den : Int) = (r.den : Int)) = decide (q = r) := decide_eq_decide.mpr ⟨fun h => Rat.ext hn (by omega), fun h => by rw [h]⟩
    rw [e]
    exact k
  · rw [decide_eq_false (fun h => hn (by rw [h]))] at k
    exact k
end
end LW
end
section
set_option Elab.async false
set_option linter.all false
set_option maxRecDepth 100000
set_option maxHeartbeats 4000000
namespace LW
open PySem PySem.Spec PyProof.Rows L2 Wo
local macro_rules | `(tactic| walk_at "lf") => `(tactic| first | assumption | (refine Up.up (by assumption) ?_; walk_at "lf") | (refine RAll.up (by assumption) ?_; walk_at "lf") | (refine Ob2.up (by assumption) ?_; walk_at "lf"))
local macro_rules | `(tactic| walk_at "side") => `(tactic| first | (unfold CMul; omega) | (unfold CDiv; omega) | (unfold CDivN; omega) | (unfold CPow; omega) | (show (0 : Int) < _; omega) | decide)
local macro_rules | `(tactic| walk_at "rd1") => `(tactic| first
  | ((with_reducible refine rd_var (v := ?v) ?h ?_); (case h => rfl))
  | with_reducible refine rd_c ?_
  | with_reducible refine rd_op ?_
  | with_reducible refine rd_I0 ?_
  | with_reducible refine rd_I ?_ ?_
  | with_reducible refine rd_U ?_
  | with_reducible refine rd_eqI ?_
  | with_reducible refine rd_neI ?_
  | with_reducible refine rd_eqS ?_
  | with_reducible refine rd_neS ?_
  | with_reducible refine rd_un ?_
  | with_reducible refine rd_test ?_
  | with_reducible refine rd_tB ?_
  | with_reducible refine rd_exB ?_
  | with_reducible refine rd_cons ?_
  | with_reducible refine rd_nil ?_
  | with_reducible refine rd_call ?_
  | with_reducible refine rd_cb ?_
  | with_reducible refine rd_seq ?_
  | with_reducible refine rd_asg ?_
  | with_reducible refine rd_gname ?_
  | with_reducible refine rd_ret ?_
  | with_reducible refine rd_ifS ?_
  | with_reducible refine rd_next ?_
  | with_reducible refine rd_drop ?_
  | with_reducible refine rd_if ?_
  | with_reducible refine rd_not ?_
  | with_reducible refine rd_and ?_
  | with_reducible refine rd_or ?_
  | with_reducible refine rd_andV ?_
  | with_reducible refine rd_orV ?_
  | with_reducible refine rd_notV ?_
  | with_reducible refine rd_chain ?_
  | with_reducible refine rd_slot ?_
  | with_reducible refine rd_sst ?_
  | with_reducible refine rd_par ?_
  | with_reducible refine rd_ex2 ?_
  | with_reducible refine rd_gcd ?_
  | with_reducible refine rd_prop ?_
  | with_reducible refine rd_sub ?_
  | with_reducible refine rd_lcm ?_ ?_
  | with_reducible refine rd_forL ?_
  | with_reducible refine rd_forT ?_
  | with_reducible refine rd_forR1 ?_
  | with_reducible refine rd_forZ ?_
  | with_reducible refine rd_lcL ?_
  | with_reducible refine rd_lcT ?_
  | with_reducible refine rd_lcR1 ?_
  | with_reducible refine rd_lcR2 ?_
  | with_reducible refine rd_lcZ ?_
  | with_reducible refine rd_lc2TT ?_
  | with_reducible refine rd_abs ?_
  | with_reducible refine rd_int ?_
  | with_reducible refine rd_intB ?_
  | with_reducible refine rd_max2 ?_
  | with_reducible refine rd_min2 ?_
  | with_reducible refine rd_tup ?_
  | with_reducible refine rd_lst ?_
  | with_reducible refine ite_T ?_
  | with_reducible refine ite_n ?_
  | with_reducible refine ite_y ?_
  | with_reducible refine ite_F ?_
  | with_reducible refine rd_retN ?_)
local macro_rules | `(tactic| walk_at "rd") => `(tactic| repeat walk_at "rd1")
local macro_rules | `(tactic| walk_at "sd") => `(tactic| first | exact Or.inl ⟨by decide, by decide⟩ | exact Or.inr ⟨by decide, by decide⟩ | (show (0 : Int) < _; decide +kernel) | exact ⟨by decide, by decide, by decide +kernel⟩ | exact ⟨by decide, by decide +kernel⟩)
section
variable {P : Program} {w : World} {K : PySem.W.Frag} {mg : Str → Option Value} {base : Heap}
abbrev RR (K : PySem.W.Frag) : Rl Rat := RQ (gA "Ratio" K)
abbrev RRow (K : PySem.W.Frag) : Rl (List Rat) := RT K (RR K)
abbrev RMat (K : PySem.W.Frag) : Rl (List (List Rat)) := RT K (RRow K)
def sp_is_row (K : PySem.W.Frag) : Sp := sp1 fun x H Q _ => ∃ row, RRow K H x row ∧ row.length ≤ 8 ∧ ∀ H', Same H H' → Q (.bl true) H'
abbrev n_is_row : List Str := ["value", "one"]
theorem sc_is_row : FnScope n_is_row ["value"] (defScope s_is_row) := ⟨rfl, rfl, rfl, by decide +kernel, rfl, by decide +kernel, by decide +kernel⟩
theorem cal_is_row (T : Tx K mg) : Cal P w K mg base 2 "is_row" (sp_is_row K) := by
  refine cal_of (k := 1) T.G_is_row T.D_is_row sc_is_row (fun _ _ _ _ _ _ us hl => match us, hl with | [_], _ => rfl) (fun vs H Q E h => ?_) (fun cdv A outer s H vs Q E hr h => ?_)
  · obtain ⟨v0, rfl, _⟩ := h
    rfl
  obtain ⟨v0, rfl, h⟩ := h
  refine ⟨_, pss_one (ps_ret (pe_and (pe_callB (kIsi K) (by rfl) T.N_isinstance (by decide +kernel) (pa_cons (pv 0) (pa_cons (pe_bltn (v := .ty "tuple") (by rfl) T.N_tuple (by decide +kernel) rfl) pa_nil))) (pe_and (pe_cmpR op_le (pe_callB (kLen K) (by rfl) T.N_len (by decide +kernel) (pa_cons (pv 0) pa_nil)) (pe_gI T.I_MAX_ROWS) (nomark _)) (pe_one (pe_callB (kAll K) (by rfl) T.N_all (by decide +kernel) (pa_cons (pe_lc (own := [("one", 1)]) (g := gName 1) (tt := tYes) (by rfl) sc_is_row.nd (kPiT K (pv 0)) (blkOk_by (own := [("one", 1)]) (N := n_is_row) (by rfl)) (fun _ _ _ _ _ => pg_name (i := 1) sc_is_row.nd rfl (by first | exact Or.inl rfl | exact Or.inr rfl)) (fun _ _ _ _ _ => pts_nil) (fun _ _ _ _ _ => pe_hid (pc (cal_is_ratio T) hr (pa_cons (pv 1) pa_nil)))) pa_nil)))))), ?_⟩
  obtain ⟨row, hrow, hl, k⟩ := h
  walk_at "rd"
  refine rd_isiY (HasTy.rt hrow) ?_ (.ty "tuple")
  walk_at "rd"
  refine rd_lenT hrow ?_
  walk_at "rd"
  refine ite_t (decide_eq_true (by omega)) ?_
  walk_at "rd"
  refine lcT hrow (fun J W hz => ?_)
  refine lcK_name (S := RB) (K := K) W hz (fun _ => true) (fun v H' e r => ?_) (fun q G x hq e r Kt hk => ?_)
  · walk_at "rd"
    refine rd_all r ?_
    rw [show (row.map fun _ => true).all id = true from List.all_eq_true.mpr fun b hb => by obtain ⟨_, _, rfl⟩ := List.mem_map.mp hb; rfl]
    exact k _ e
  · walk_at "rd"
    exact ⟨_, rfl, q, r, hk _ _ (Same.refl _) rfl⟩
def sp_width_of (K : PySem.W.Frag) : Sp := sp1 fun x H Q _ => ∃ rows, RMat K H x rows ∧ Q (.int (wd rows : Nat)) H
abbrev n_width_of : List Str := ["rows"]
theorem sc_width_of : FnScope n_width_of ["rows"] (defScope s_width_of) := ⟨rfl, rfl, rfl, by decide +kernel, rfl, by decide +kernel, by decide +kernel⟩
theorem cal_width_of (T : Tx K mg) : Cal P w K mg base 1 "width_of" (sp_width_of K) := by
  refine cal_of (k := 0) T.G_width_of T.D_width_of sc_width_of (fun _ _ _ _ _ _ us hl => match us, hl with | [_], _ => rfl) (fun vs H Q E h => ?_) (fun cdv A outer s H vs Q E hr h => ?_)
  · obtain ⟨v0, rfl, _⟩ := h
    rfl
  obtain ⟨v0, rfl, h⟩ := h
  refine ⟨_, pss_one (ps_ret (pe_ifExp (pt_cmpR op_gt (pe_callB (kLen K) (by rfl) T.N_len (by decide +kernel) (pa_cons (pv 0) pa_nil)) pe_int (nomark _)) (pe_callB (kLen K) (by rfl) T.N_len (by decide +kernel) (pa_cons (pe_ix (kIxT K) (pv 0) pe_int (fun _ _ => rfl)) pa_nil)) pe_int)), ?_⟩
  obtain ⟨rows, hrows, k⟩ := h
  walk_at "rd"
  refine rd_lenT hrows ?_
  walk_at "rd"
  cases rows with
  | nil =>
    refine ite_f rfl ?_
    walk_at "rd"
    exact k
  | cons r rs =>
    refine ite_t (decide_eq_true (by simp)) ?_
    walk_at "rd"
    refine rd_ixT (n := 0) (a := r) hrows rfl (fun w' hw => ?_)
    walk_at "rd"
    refine rd_lenT hw ?_
    exact k
def sp_are_rows (K : PySem.W.Frag) : Sp := sp1 fun x H Q _ => ∃ rows, RMat K H x rows ∧ Few rows ∧ ∀ H', Same H H' → Q (.bl true) H'
abbrev n_are_rows : List Str := ["value", "row"]
theorem sc_are_rows : FnScope n_are_rows ["value"] (defScope s_are_rows) := ⟨rfl, rfl, rfl, by decide +kernel, rfl, by decide +kernel, by decide +kernel⟩
theorem cal_are_rows (T : Tx K mg) : Cal P w K mg base 3 "are_rows" (sp_are_rows K) := by
  refine cal_of (k := 2) T.G_are_rows T.D_are_rows sc_are_rows (fun _ _ _ _ _ _ us hl => match us, hl with | [_], _ => rfl) (fun vs H Q E h => ?_) (fun cdv A outer s H vs Q E hr h => ?_)
  · obtain ⟨v0, rfl, _⟩ := h
    rfl
  obtain ⟨v0, rfl, h⟩ := h
  refine ⟨_, pss_cons (ps_if (PW.pt (pw_or (pt_not (pt_val (pe_callB (kIsi K) (by rfl) T.N_isinstance (by decide +kernel) (pa_cons (pv 0) (pa_cons (pe_bltn (v := .ty "tuple") (by rfl) T.N_tuple (by decide +kernel) rfl) pa_nil))))) (pw_or1 (pt_cmpR op_gt (pe_callB (kLen K) (by rfl) T.N_len (by decide +kernel) (pa_cons (pv 0) pa_nil)) (pe_gI T.I_MAX_ROWS) (nomark _)))))
        (pss_one (ps_ret pe_bl))
        (pss_nil))
      (pss_cons (ps_if (pt_not (pt_val (pe_callB (kAll K) (by rfl) T.N_all (by decide +kernel) (pa_cons (pe_lc (own := [("row", 1)]) (g := gName 1) (tt := tYes) (by rfl) sc_are_rows.nd (kPiT K (pv 0)) (blkOk_by (own := [("row", 1)]) (N := n_are_rows) (by rfl)) (fun _ _ _ _ _ => pg_name (i := 1) sc_are_rows.nd rfl (by first | exact Or.inl rfl | exact Or.inr rfl)) (fun _ _ _ _ _ => pts_nil) (fun _ _ _ _ _ => pe_hid (pc (cal_is_row T) hr (pa_cons (pv 1) pa_nil)))) pa_nil))))
        (pss_one (ps_ret pe_bl))
        (pss_nil))
      (pss_one (ps_ret (pe_callB (kAll K) (by rfl) T.N_all (by decide +kernel) (pa_cons (pe_lc (own := [("row", 1)]) (g := gName 1) (tt := tYes) (by rfl) sc_are_rows.nd (kPiT K (pv 0)) (blkOk_by (own := [("row", 1)]) (N := n_are_rows) (by rfl)) (fun _ _ _ _ _ => pg_name (i := 1) sc_are_rows.nd rfl (by first | exact Or.inl rfl | exact Or.inr rfl)) (fun _ _ _ _ _ => pts_nil) (fun _ _ _ _ _ => pe_hid (pe_cmpR op_eq (pe_callB (kLen K) (by rfl) T.N_len (by decide +kernel) (pa_cons (pv 1) pa_nil)) (pe_callB (kLen K) (by rfl) T.N_len (by decide +kernel) (pa_cons (pe_ix (kIxT K) (pv 0) pe_int (fun _ _ => rfl)) pa_nil)) (nomark _)))) pa_nil))))), ?_⟩
  obtain ⟨rows, hrows, hf, k⟩ := h
  walk_at "rd"
  refine rd_isiY (HasTy.rt hrows) ?_ (.ty "tuple")
  walk_at "rd"
  refine rd_lenT hrows ?_
  walk_at "rd"
  refine ite_f (decide_eq_false (by have := hf.1; omega)) ?_
  walk_at "rd"
  refine lcT hrows (fun J W hz => ?_)
  refine lcK_name (S := RB) (K := K) W hz (fun _ => true) (fun v H' e r => ?_) (fun row G x hq e r Kt hk => ?_)
  · walk_at "rd"
    refine rd_allT r (fun _ _ => rfl) ?_
    walk_at "rd"
    refine lcT (hrows.up' e) (fun J W hz => ?_)
    refine lcK_name (S := RB) (K := K) W hz (fun _ => true) (fun v H'' e' r => ?_) (fun row G x hq e' r Kt hk => ?_)
    · walk_at "rd"
      exact rd_allT r (fun _ _ => rfl) (k _ (e.trans e'))
    · walk_at "rd"
      refine rd_lenT r ?_
      walk_at "rd"
      cases rows with
      | nil => cases hq
      | cons r0 rs =>
        refine rd_ixT (n := 0) (a := r0) (hrows.up' (e.trans e')) rfl (fun w' hw => ?_)
        walk_at "rd"
        refine rd_lenT hw ?_
        walk_at "rd"
        have h0 : (row.length : Int) = (r0.length : Int) := by rw [hf.2.2 row hq]; rfl
        rw [decide_eq_true h0]
        exact hk _ _ (Same.refl _) rfl
  · walk_at "rd"
    exact ⟨_, rfl, row, r, hf.2.1 _ hq, fun H' e => hk _ _ e rfl⟩
def sp_require_rows (K : PySem.W.Frag) : Sp := sp1 fun x H Q _ => ∃ rows, RMat K H x rows ∧ Few rows ∧ ∀ H', Same H H' → Q .non H'
abbrev n_require_rows : List Str := ["rows"]
theorem sc_require_rows : FnScope n_require_rows ["rows"] (defScope s_require_rows) := ⟨rfl, rfl, rfl, by decide +kernel, rfl, by decide +kernel, by decide +kernel⟩
theorem cal_require_rows (T : Tx K mg) : Cal P w K mg base 4 "require_rows" (sp_require_rows K) := by
  refine cal_of (k := 3) T.G_require_rows T.D_require_rows sc_require_rows (fun _ _ _ _ _ _ us hl => match us, hl with | [_], _ => rfl) (fun vs H Q E h => ?_) (fun cdv A outer s H vs Q E hr h => ?_)
  · obtain ⟨v0, rfl, _⟩ := h
    rfl
  obtain ⟨v0, rfl, h⟩ := h
  refine ⟨_, pss_one (ps_if (pt_not (pt_val (pc (cal_are_rows T) hr (pa_cons (pv 0) pa_nil))))
        (pss_one ps_never)
        (pss_nil)), ?_⟩
  obtain ⟨rows, hrows, hf, k⟩ := h
  walk_at "rd"
  refine ⟨_, rfl, rows, hrows, hf, fun H' e => ?_⟩
  walk_at "rd"
  exact k _ e
theorem flat_le {rows : List (List Rat)} (h : Few rows) : rows.flatten.length ≤ 64 := by
  rw [List.length_flatten]
  have : ∀ l : List (List Rat), (∀ r ∈ l, r.length ≤ 8) → (l.map List.length).sum ≤ 8 * l.length := fun l => by
    induction l with
    | nil => intro _; simp
    | cons a t ih =>
      intro h
      have h1 := h a List.mem_cons_self
      have h2 := ih fun r hr => h r (List.mem_cons_of_mem _ hr)
      simp only [List.map_cons, List.sum_cons, List.length_cons]
      omega
  have h1 := this rows h.2.1
  have h2 := h.1
  omega
def sp_has_great (K : PySem.W.Frag) : Sp := sp1 fun x H Q _ => ∃ rows, RMat K H x rows ∧ Few rows ∧ (∀ r ∈ rows, ∀ q ∈ r, Sm q) ∧ ∀ H', Same H H' → Q (.bl false) H'
abbrev n_has_great : List Str := ["rows", "row", "one"]
theorem sc_has_great : FnScope n_has_great ["rows"] (defScope s_has_great) := ⟨rfl, rfl, rfl, by decide +kernel, rfl, by decide +kernel, by decide +kernel⟩
theorem cal_has_great (T : Tx K mg) : Cal P w K mg base 3 "has_great" (sp_has_great K) := by
  refine cal_of (k := 2) T.G_has_great T.D_has_great sc_has_great (fun _ _ _ _ _ _ us hl => match us, hl with | [_], _ => rfl) (fun vs H Q E h => ?_) (fun cdv A outer s H vs Q E hr h => ?_)
  · obtain ⟨v0, rfl, _⟩ := h
    rfl
  obtain ⟨v0, rfl, h⟩ := h
  refine ⟨_, pss_one (ps_ret (pe_callB (kAny K) (by rfl) T.N_any (by decide +kernel) (pa_cons (pe_lc2 (own := [("row", 1), ("one", 2)]) (vs1 := [2]) (g := gName 1) (g1 := gName 2) (by rfl) sc_has_great.nd (kPiT K (pv 0)) (blkOk_by (own := [("row", 1), ("one", 2)]) (N := n_has_great) (by rfl)) (by decide) (fun _ _ _ _ _ => pg_name (i := 1) sc_has_great.nd rfl (by first | exact Or.inl rfl | exact Or.inr rfl)) (fun _ _ _ _ _ => pts_nil) (fun _ _ _ _ _ => kPiT K (pv 1)) (fun _ _ _ _ _ => pg_name (i := 2) sc_has_great.nd rfl (by first | exact Or.inl rfl | exact Or.inr rfl)) (fun _ _ _ _ _ => pts_nil) (fun _ _ _ _ _ => pe_hid (pe_or (pe_cmpR op_ge (pe_callB bi_abs (by rfl) T.N_abs (by decide +kernel) (pa_cons (pp (prop_Ratio_top T) hr (pv 2)) pa_nil)) (pe_gI T.I_GREAT_rows) (nomark _)) (pe_one (pe_cmpR op_ge (pp (prop_Ratio_bottom T) hr (pv 2)) (pe_gI T.I_GREAT_rows) (nomark _)))))) pa_nil))), ?_⟩
  obtain ⟨rows, hrows, hf, hs, k⟩ := h
  walk_at "rd"
  refine lc2TT (S := RB) (R := RR K) (fun _ => false) hrows (Nat.le_trans (flat_le hf) (by decide)) (fun v H' e r => ?_) (fun row u v G hr a ha e hv hu Kt hk => ?_)
  · walk_at "rd"
    exact rd_anyF r (fun _ _ => rfl) (k _ e)
  · have hsm := hs row hr a ha
    unfold Sm at hsm
    walk_at "rd"
    refine rd_propAt hu ⟨_, rfl, a, hu, ?_⟩
    walk_at "rd"
    refine ite_f (decide_eq_false (by omega)) ?_
    walk_at "rd"
    refine rd_propAt hu ⟨_, rfl, a, hu, ?_⟩
    walk_at "rd"
    rw [decide_eq_false (by omega)]
    exact hk _ _ (Same.refl _) rfl
def sp_require_small (K : PySem.W.Frag) : Sp := sp1 fun x H Q _ => ∃ lots, RT K (RMat K) H x lots ∧ (∀ rows ∈ lots, Few rows ∧ (∀ r ∈ rows, ∀ q ∈ r, Sm q)) ∧ ∀ H', Same H H' → Q .non H'
abbrev n_require_small : List Str := ["lots", "rows"]
theorem sc_require_small : FnScope n_require_small ["lots"] (defScope s_require_small) := ⟨rfl, rfl, rfl, by decide +kernel, rfl, by decide +kernel, by decide +kernel⟩
theorem cal_require_small (T : Tx K mg) : Cal P w K mg base 4 "require_small" (fun vs H Q E => vs.length ≤ sizeLine ∧ ∀ p, H p = none → sp_require_small K [V.ref p] (upd H p (.tup vs)) Q E) := by
  refine cal_star (k := 3) (sp := sp_require_small K) (pv := "lots") T.G_require_small T.D_require_small sc_require_small (fun _ _ _ _ _ _ rest => match rest with | [] => rfl | _ :: _ => rfl) (fun cdv A outer s H vs Q E hr h => ?_)
  obtain ⟨v0, rfl, h⟩ := h
  refine ⟨_, pss_cons (ps_for (passes_of rfl) rfl (kPiT K (pv 0)) (pg_name (i := 1) sc_require_small.nd rfl (by first | exact Or.inl rfl | exact Or.inr rfl))
        (pss_one (ps_if (PW.pt (pw_and (pt_cmpR op_gt (pe_callB (kLen K) (by rfl) T.N_len (by decide +kernel) (pa_cons (pv 1) pa_nil)) (pe_gI T.I_MOST_LONG) (nomark _)) (pw_and1 (pt_cmpR op_gt (pc (cal_width_of T) hr (pa_cons (pv 1) pa_nil)) (pe_gI T.I_MOST_LONG) (nomark _)))))
        (pss_one ps_never)
        (pss_nil))))
      (pss_one (ps_for (passes_of rfl) rfl (kPiT K (pv 0)) (pg_name (i := 1) sc_require_small.nd rfl (by first | exact Or.inl rfl | exact Or.inr rfl))
        (pss_one (ps_if (pt_val (pc (cal_has_great T) hr (pa_cons (pv 1) pa_nil)))
        (pss_one ps_never)
        (pss_nil))))), ?_⟩
  obtain ⟨lots, hl, hs, k⟩ := h
  walk_at "rd"
  refine forT hl (fun J W hz => ?_)
  refine forK W (fun i σ' H' => (∃ o, σ' = [some v0, o]) ∧ Same H H') ⟨⟨_, rfl⟩, Same.refl _⟩ (fun _ _ _ h => h.2) (fun i σ' H' rows x H'' ha hI e e' hx => ?_) (fun σ' H' hI => ?_)
  · obtain ⟨⟨o, rfl⟩, _⟩ := hI
    have hf := (hs rows (List.mem_of_getElem? ha)).1.1
    walk_at "rd"
    refine rd_lenT hx ?_
    walk_at "rd"
    refine ite_f (decide_eq_false (by omega)) ?_
    walk_at "rd"
    exact ⟨⟨_, rfl⟩, e'⟩
  · obtain ⟨⟨o, rfl⟩, e1⟩ := hI
    walk_at "rd"
    refine forT (hl.up' e1) (fun J W hz => ?_)
    refine forK W (fun i σ' H'' => (∃ o, σ' = [some v0, o]) ∧ Same H' H'') ⟨⟨_, rfl⟩, Same.refl _⟩ (fun _ _ _ h => h.2) (fun i σ' H2 rows x H'' ha hI e e' hx => ?_) (fun σ' H2 hI => ?_)
    · obtain ⟨⟨o, rfl⟩, _⟩ := hI
      obtain ⟨hf, hs⟩ := hs rows (List.mem_of_getElem? ha)
      walk_at "rd"
      refine ⟨_, rfl, rows, hx, hf, hs, fun H3 e3 => ?_⟩
      walk_at "rd"
      exact ⟨⟨_, rfl⟩, e'.trans e3⟩
    · exact k _ (e1.trans hI.2)
/-- rows told to be small -/
theorem small1 {K : PySem.W.Frag} {H : Hp} {Q : VK} {x : V} {rows : List (List Rat)} (h : RMat K H x rows) (hf : Few rows) (hs : ∀ r ∈ rows, ∀ q ∈ r, Sm q) (k : ∀ H', Same H H' → Q .non H') :
    (fun vs H Q E => vs.length ≤ sizeLine ∧ ∀ p, H p = none → sp_require_small K [V.ref p] (upd H p (.tup vs)) Q E) [x] H Q E0 :=
  ⟨(by show 1 ≤ sizeLine; decide), fun p hp => ⟨_, rfl, [rows], RT.mk hp (.cons h .nil) (by show 1 ≤ sizeLine; decide), fun r hr => by obtain rfl := List.mem_singleton.mp hr; exact ⟨hf, hs⟩, fun H' e => k H' ((Same.new hp).trans e)⟩⟩
theorem small2 {K : PySem.W.Frag} {H : Hp} {Q : VK} {x y : V} {rows others : List (List Rat)} (h : RMat K H x rows) (h' : RMat K H y others) (hf : Few rows) (hs : ∀ r ∈ rows, ∀ q ∈ r, Sm q) (hf' : Few others) (hs' : ∀ r ∈ others, ∀ q ∈ r, Sm q) (k : ∀ H', Same H H' → Q .non H') :
    (fun vs H Q E => vs.length ≤ sizeLine ∧ ∀ p, H p = none → sp_require_small K [V.ref p] (upd H p (.tup vs)) Q E) [x, y] H Q E0 :=
  ⟨(by show 2 ≤ sizeLine; decide), fun p hp => ⟨_, rfl, [rows, others], RT.mk hp (.cons h (.cons h' .nil)) (by show 2 ≤ sizeLine; decide), fun r hr => by
    rcases List.mem_cons.mp hr with rfl | hr
    · exact ⟨hf, hs⟩
    · obtain rfl := List.mem_singleton.mp hr
      exact ⟨hf', hs'⟩, fun H' e => k H' ((Same.new hp).trans e)⟩⟩
end
end LW
end
section
set_option Elab.async false
set_option linter.all false
set_option maxRecDepth 100000
set_option maxHeartbeats 4000000
set_option exponentiation.threshold 20000
namespace LW
open PySem PySem.Spec PyProof.Rows L2 Wo
local macro_rules | `(tactic| walk_at "lf") => `(tactic| first | assumption | (refine Up.up (by assumption) ?_; walk_at "lf") | (refine RAll.up (by assumption) ?_; walk_at "lf") | (refine Ob2.up (by assumption) ?_; walk_at "lf"))
local macro_rules | `(tactic| walk_at "side") => `(tactic| first | (unfold CMul; omega) | (unfold CDiv; omega) | (unfold CDivN; omega) | (unfold CPow; omega) | (show (0 : Int) < _; omega) | decide)
local macro_rules | `(tactic| walk_at "rd1") => `(tactic| first
  | ((with_reducible refine rd_var (v := ?v) ?h ?_); (case h => rfl))
  | with_reducible refine rd_c ?_
  | with_reducible refine rd_op ?_
  | with_reducible refine rd_I0 ?_
  | with_reducible refine rd_I ?_ ?_
  | with_reducible refine rd_U ?_
  | with_reducible refine rd_eqI ?_
  | with_reducible refine rd_neI ?_
  | with_reducible refine rd_eqS ?_
  | with_reducible refine rd_neS ?_
  | with_reducible refine rd_un ?_
  | with_reducible refine rd_test ?_
  | with_reducible refine rd_tB ?_
  | with_reducible refine rd_exB ?_
  | with_reducible refine rd_cons ?_
  | with_reducible refine rd_nil ?_
  | with_reducible refine rd_call ?_
  | with_reducible refine rd_cb ?_
  | with_reducible refine rd_seq ?_
  | with_reducible refine rd_asg ?_
  | with_reducible refine rd_gname ?_
  | with_reducible refine rd_ret ?_
  | with_reducible refine rd_ifS ?_
  | with_reducible refine rd_next ?_
  | with_reducible refine rd_drop ?_
  | with_reducible refine rd_if ?_
  | with_reducible refine rd_not ?_
  | with_reducible refine rd_and ?_
  | with_reducible refine rd_or ?_
  | with_reducible refine rd_andV ?_
  | with_reducible refine rd_orV ?_
  | with_reducible refine rd_notV ?_
  | with_reducible refine rd_chain ?_
  | with_reducible refine rd_slot ?_
  | with_reducible refine rd_sst ?_
  | with_reducible refine rd_par ?_
  | with_reducible refine rd_ex2 ?_
  | with_reducible refine rd_gcd ?_
  | with_reducible refine rd_prop ?_
  | with_reducible refine rd_sub ?_
  | with_reducible refine rd_lcm ?_ ?_
  | with_reducible refine rd_forL ?_
  | with_reducible refine rd_forT ?_
  | with_reducible refine rd_forR1 ?_
  | with_reducible refine rd_forZ ?_
  | with_reducible refine rd_lcL ?_
  | with_reducible refine rd_lcT ?_
  | with_reducible refine rd_lcR1 ?_
  | with_reducible refine rd_lcR2 ?_
  | with_reducible refine rd_lcZ ?_
  | with_reducible refine rd_lc2TT ?_
  | with_reducible refine rd_abs ?_
  | with_reducible refine rd_int ?_
  | with_reducible refine rd_intB ?_
  | with_reducible refine rd_max2 ?_
  | with_reducible refine rd_min2 ?_
  | with_reducible refine rd_tup ?_
  | with_reducible refine rd_lst ?_
  | with_reducible refine ite_T ?_
  | with_reducible refine ite_n ?_
  | with_reducible refine ite_y ?_
  | with_reducible refine ite_F ?_
  | with_reducible refine rd_retN ?_)
local macro_rules | `(tactic| walk_at "rd") => `(tactic| repeat walk_at "rd1")
local macro_rules | `(tactic| walk_at "sd") => `(tactic| first | exact Or.inl ⟨by decide, by decide⟩ | exact Or.inr ⟨by decide, by decide⟩ | (show (0 : Int) < _; decide +kernel) | exact ⟨by decide, by decide, by decide +kernel⟩ | exact ⟨by decide, by decide +kernel⟩)
section
variable {P : Program} {w : World} {K : PySem.W.Frag} {mg : Str → Option Value} {base : Heap}
def sp_whole_row (K : PySem.W.Frag) : Sp := sp1 fun x H Q _ => ∃ row, RRow K H x row ∧ SmR row ∧ ∀ v H', Same H H' → RP K RI (RL K RI) H' v ((scN row : Int), nums (scN row) row) → Q v H'
abbrev n_whole_row : List Str := ["row", "scale", "one"]
theorem sc_whole_row : FnScope n_whole_row ["row"] (defScope s_whole_row) := ⟨rfl, rfl, rfl, by decide +kernel, rfl, by decide +kernel, by decide +kernel⟩
theorem cal_whole_row (T : Tx K mg) : Cal P w K mg base 1 "whole_row" (sp_whole_row K) := by
  refine cal_of (k := 0) T.G_whole_row T.D_whole_row sc_whole_row (fun _ _ _ _ _ _ us hl => match us, hl with | [_], _ => rfl) (fun vs H Q E h => ?_) (fun cdv A outer s H vs Q E hr h => ?_)
  · obtain ⟨v0, rfl, _⟩ := h
    rfl
  obtain ⟨v0, rfl, h⟩ := h
  refine ⟨_, pss_cons (ps_set (i := 1) sc_whole_row.nd rfl (by first | exact Or.inl rfl | exact Or.inr rfl) pe_int)
      (pss_cons (ps_for (passes_of rfl) rfl (kPiT K (pv 0)) (pg_name (i := 2) sc_whole_row.nd rfl (by first | exact Or.inl rfl | exact Or.inr rfl))
        (pss_one (ps_set (i := 1) sc_whole_row.nd rfl (by first | exact Or.inl rfl | exact Or.inr rfl) (pe_callBfun cr_lcm (by rfl) T.B_lcm (pa_cons (pv 1) (pa_cons (kSl K (pv 2)) pa_nil))))))
      (pss_one (ps_ret (pe_tup (pa_cons (pv 1) (pa_cons (pe_lc (own := [("one", 2)]) (g := gName 2) (tt := tYes) (by rfl) sc_whole_row.nd (kPiT K (pv 0)) (blkOk_by (own := [("one", 2)]) (N := n_whole_row) (by rfl)) (fun _ _ _ _ _ => pg_name (i := 2) sc_whole_row.nd rfl (by first | exact Or.inl rfl | exact Or.inr rfl)) (fun _ _ _ _ _ => pts_nil) (fun _ _ _ _ _ => pe_hid (pe_op op_mulW (kSl K (pv 2)) (pe_op op_fdivA (pv 1) (kSl K (pv 2)))))) pa_nil)))))), ?_⟩
  obtain ⟨row, hrow, hs, k⟩ := h
  have p67 : (2 : Nat) ^ 536 < 2 ^ 9000 := Nat.pow_lt_pow_right (by decide) (by decide)
  walk_at "rd"
  refine forT hrow (fun J W hz => ?_)
  refine forK W (fun i σ' H' => (∃ o, σ' = [some v0, some (.int (scN (row.take i) : Nat)), o]) ∧ Same H H') ⟨⟨_, rfl⟩, Same.refl _⟩ (fun _ _ _ h => h.2) (fun i σ' H' q x H'' ha hI e e' hx => ?_) (fun σ' H' hI => ?_)
  · obtain ⟨⟨o, rfl⟩, _⟩ := hI
    have hb := sc_leT hs i
    have hq := (hs.2 q (List.mem_of_getElem? ha)).2
    walk_at "rd"
    refine rd_bot T.C_Ratio hx ?_
    walk_at "rd"
    · refine ⟨⟨some x, ?_⟩, e'⟩
      rw [sc_snoc ha]
      rfl
    · exact ⟨by rw [Int.natAbs_natCast]; omega, by rw [Int.natAbs_natCast]; exact Nat.lt_trans (Nat.lt_trans hq (by decide : 10 ^ 20 < 2 ^ 67)) (Nat.pow_lt_pow_right (by decide) (by decide))⟩
  · obtain ⟨⟨o, rfl⟩, e1⟩ := hI
    rw [List.take_of_length_le (Nat.le_refl _)]
    have hb := sc_le hs
    walk_at "rd"
    refine lcT (hrow.up' e1) (fun J W hz => ?_)
    refine lcK_name (S := RI) (K := K) W hz (fun q => q.num * ((scN row : Nat) : Int).fdiv (q.den : Int)) (fun v H2 e2 r => ?_) (fun q G x hq e2 r Kt hk => ?_)
    · walk_at "rd"
      refine rd_newT (fun p H3 hp e3 h3 => ?_) (by show 2 ≤ sizeLine; decide)
      exact k _ _ ((e1.trans e2).trans e3) (RP.at h3 rfl (r.up' e3))
    · have hq2 := hs.2 q hq
      unfold Sm at hq2
      have hd := q.den_pos
      walk_at "rd"
      refine rd_top T.C_Ratio r ?_
      walk_at "rd"
      refine rd_bot T.C_Ratio r ?_
      walk_at "rd"
      · exact hk _ _ (Same.refl _) rfl
      · exact mul_of (a := 67) (b := 537) (by omega) (Nat.lt_of_le_of_lt fdiv_le (Nat.lt_of_le_of_lt hb (Nat.pow_lt_pow_right (by decide) (by decide))))
      · exact div_of (b := 67) (by omega) (by omega)
def sp_ratio_row (K : PySem.W.Frag) : Sp := sp2 fun x y H Q _ => ∃ (ns : List Int) (s : Int), RL K RI H x ns ∧ y = .int s ∧ s ≠ 0 ∧ s.natAbs < 2 ^ 8999 ∧ (∀ n ∈ ns, (Rat.divInt n s).num.natAbs < 10 ^ 2000 ∧ (Rat.divInt n s).den < 10 ^ 2000) ∧ ∀ v H', Same H H' → RRow K H' v (ns.map fun n => Rat.divInt n s) → Q v H'
abbrev n_ratio_row : List Str := ["numbers", "scale", "number"]
theorem sc_ratio_row : FnScope n_ratio_row ["numbers", "scale"] (defScope s_ratio_row) := ⟨rfl, rfl, rfl, by decide +kernel, rfl, by decide +kernel, by decide +kernel⟩
theorem cal_ratio_row (T : Tx K mg) : Cal P w K mg base 8 "ratio_row" (sp_ratio_row K) := by
  refine cal_of (k := 7) T.G_ratio_row T.D_ratio_row sc_ratio_row (fun _ _ _ _ _ _ us hl => match us, hl with | [_, _], _ => rfl) (fun vs H Q E h => ?_) (fun cdv A outer s H vs Q E hr h => ?_)
  · obtain ⟨v0, v1, rfl, _⟩ := h
    rfl
  obtain ⟨v0, v1, rfl, h⟩ := h
  refine ⟨_, pss_one (ps_ret (pe_callTy (kTuple K) (by rfl) T.N_tuple (by decide +kernel) (pa_cons (pe_lc (own := [("number", 2)]) (g := gName 2) (tt := tYes) (by rfl) sc_ratio_row.nd (kPiL K (pv 0)) (blkOk_by (own := [("number", 2)]) (N := n_ratio_row) (by rfl)) (fun _ _ _ _ _ => pg_name (i := 2) sc_ratio_row.nd rfl (by first | exact Or.inl rfl | exact Or.inr rfl)) (fun _ _ _ _ _ => pts_nil) (fun _ _ _ _ _ => pe_hid (pc (cal_ratio_from T) hr (pa_cons (pv 2) (pa_cons (pv 1) pa_nil))))) pa_nil))), ?_⟩
  obtain ⟨ns, s, hns, rfl, hs, hs2, hn, k⟩ := h
  walk_at "rd"
  refine lcL hns (fun J W hz => ?_)
  refine lcK_name (S := RR K) (K := K) W hz (fun n => Rat.divInt n s) (fun v H2 e2 r => ?_) (fun n G x hq e2 r Kt hk => ?_)
  · walk_at "rd"
    exact rd_tupleL r fun v H3 e3 r3 => k v H3 (e2.trans e3) r3
  · obtain rfl := r
    walk_at "rd"
    exact ⟨_, _, rfl, n, s, rfl, rfl, hs, hs2, (hn n hq).1, (hn n hq).2, fun v H' e' hv => hk v H' e' hv⟩
def sp_turned (K : PySem.W.Frag) : Sp := sp1 fun x H Q _ => ∃ rows, RMat K H x rows ∧ Few rows ∧ (∀ r ∈ rows, ∀ q ∈ r, Sm q) ∧ ∀ v H', Same H H' → RMat K H' v (tr rows) → Q v H'
abbrev n_turned : List Str := ["rows", "at", "row"]
theorem sc_turned : FnScope n_turned ["rows"] (defScope s_turned) := ⟨rfl, rfl, rfl, by decide +kernel, rfl, by decide +kernel, by decide +kernel⟩
theorem cal_turned (T : Tx K mg) : Cal P w K mg base 5 "turned" (sp_turned K) := by
  refine cal_of (k := 4) T.G_turned T.D_turned sc_turned (fun _ _ _ _ _ _ us hl => match us, hl with | [_], _ => rfl) (fun vs H Q E h => ?_) (fun cdv A outer s H vs Q E hr h => ?_)
  · obtain ⟨v0, rfl, _⟩ := h
    rfl
  obtain ⟨v0, rfl, h⟩ := h
  refine ⟨_, pss_cons (ps_expr (pc (cal_require_rows T) hr (pa_cons (pv 0) pa_nil)))
      (pss_cons (ps_expr (pc (cal_require_small T) hr (pa_cons (pv 0) pa_nil)))
      (pss_one (ps_ret (pe_callTy (kTuple K) (by rfl) T.N_tuple (by decide +kernel) (pa_cons (pe_lc (own := [("at", 1)]) (g := gName 1) (tt := tYes) (by rfl) sc_turned.nd (pi_range1 rfl T.N_range (pa_cons (pc (cal_width_of T) hr (pa_cons (pv 0) pa_nil)) pa_nil)) (blkOk_by (own := [("at", 1)]) (N := n_turned) (by rfl)) (fun _ _ _ _ _ => pg_name (i := 1) sc_turned.nd rfl (by first | exact Or.inl rfl | exact Or.inr rfl)) (fun _ _ _ _ _ => pts_nil) (fun _ _ _ _ _ => pe_hid (pe_callTy (kTuple K) (by rfl) T.N_tuple (by decide +kernel) (pa_cons (pe_lc (own := [("row", 2)]) (g := gName 2) (tt := tYes) (by rfl) sc_turned.nd (kPiT K (pv 0)) (blkOk_by (own := [("row", 2)]) (N := n_turned) (by rfl)) (fun _ _ _ _ _ => pg_name (i := 2) sc_turned.nd rfl (by first | exact Or.inl rfl | exact Or.inr rfl)) (fun _ _ _ _ _ => pts_nil) (fun _ _ _ _ _ => pe_hid (pe_ix (kIxT K) (pv 2) (pv 1) (fun _ _ => rfl)))) pa_nil)))) pa_nil))))), ?_⟩
  obtain ⟨rows, hrows, hf, hs, k⟩ := h
  have hw8 : wd rows ≤ 8 := by
    cases rows with
    | nil => exact Nat.zero_le _
    | cons r t => exact hf.2.1 r List.mem_cons_self
  walk_at "rd"
  refine ⟨_, rfl, rows, hrows, hf, fun H1 e1 => ?_⟩
  walk_at "rd"
  refine small1 (hrows.up' e1) hf hs fun H2 e2 => ?_
  walk_at "rd"
  refine ⟨_, rfl, rows, hrows.up' (e1.trans e2), ?_⟩
  walk_at "rd"
  refine lcR1 (j := (wd rows : Nat)) (by omega) (fun J W hz => ?_) (by omega)
  rw [Int.toNat_natCast] at W hz
  refine lcK_name (S := RRow K) (K := K) W hz (fun i => rows.map fun r => r.getD i.toNat 0) (fun v H3 e3 r => ?_) (fun i G x hq e3 r Kt hk => ?_)
  · walk_at "rd"
    exact rd_tupleL r fun v H4 e4 r4 => k v H4 (((e1.trans e2).trans e3).trans e4) r4
  · obtain rfl := r
    have hi := rgI_mem.mp hq
    walk_at "rd"
    refine lcT (hrows.up' ((e1.trans e2).trans e3)) (fun J W hz => ?_)
    refine lcK_name (S := RR K) (K := K) W hz (fun r => r.getD i.toNat 0) (fun v H4 e4 r4 => ?_) (fun r G2 x hr e4 hx Kt2 hk2 => ?_)
    · walk_at "rd"
      exact rd_tupleL r4 fun v H5 e5 r5 => hk v H5 (e4.trans e5) r5
    · walk_at "rd"
      have hlt : i.toNat < r.length := by rw [hf.2.2 r hr]; omega
      refine rd_ixT (n := i.toNat) (a := r.getD i.toNat 0) hx (by rw [List.getD_eq_getElem?_getD, List.getElem?_eq_getElem hlt]; rfl) (fun w' hw => hk2 _ _ (Same.refl _) hw) (by omega)
end
end LW
end
section
set_option Elab.async false
set_option linter.all false
set_option maxRecDepth 100000
set_option maxHeartbeats 4000000
set_option exponentiation.threshold 20000
namespace LW
open PySem PySem.Spec PyProof.Rows L2 Wo
local macro_rules | `(tactic| walk_at "lf") => `(tactic| first | assumption | (refine Up.up (by assumption) ?_; walk_at "lf") | (refine RAll.up (by assumption) ?_; walk_at "lf") | (refine Ob2.up (by assumption) ?_; walk_at "lf"))
local macro_rules | `(tactic| walk_at "side") => `(tactic| first | (unfold CMul; omega) | (unfold CDiv; omega) | (unfold CDivN; omega) | (unfold CPow; omega) | (show (0 : Int) < _; omega) | decide)
local macro_rules | `(tactic| walk_at "rd1") => `(tactic| first
  | ((with_reducible refine rd_var (v := ?v) ?h ?_); (case h => rfl))
  | with_reducible refine rd_c ?_
  | with_reducible refine rd_op ?_
  | with_reducible refine rd_I0 ?_
  | with_reducible refine rd_I ?_ ?_
  | with_reducible refine rd_U ?_
  | with_reducible refine rd_eqI ?_
  | with_reducible refine rd_neI ?_
  | with_reducible refine rd_eqS ?_
  | with_reducible refine rd_neS ?_
  | with_reducible refine rd_un ?_
  | with_reducible refine rd_test ?_
  | with_reducible refine rd_tB ?_
  | with_reducible refine rd_exB ?_
  | with_reducible refine rd_cons ?_
  | with_reducible refine rd_nil ?_
  | with_reducible refine rd_call ?_
  | with_reducible refine rd_cb ?_
  | with_reducible refine rd_seq ?_
  | with_reducible refine rd_asg ?_
  | with_reducible refine rd_gname ?_
  | with_reducible refine rd_ret ?_
  | with_reducible refine rd_ifS ?_
  | with_reducible refine rd_next ?_
  | with_reducible refine rd_drop ?_
  | with_reducible refine rd_if ?_
  | with_reducible refine rd_not ?_
  | with_reducible refine rd_and ?_
  | with_reducible refine rd_or ?_
  | with_reducible refine rd_andV ?_
  | with_reducible refine rd_orV ?_
  | with_reducible refine rd_notV ?_
  | with_reducible refine rd_chain ?_
  | with_reducible refine rd_slot ?_
  | with_reducible refine rd_sst ?_
  | with_reducible refine rd_par ?_
  | with_reducible refine rd_ex2 ?_
  | with_reducible refine rd_gcd ?_
  | with_reducible refine rd_prop ?_
  | with_reducible refine rd_sub ?_
  | with_reducible refine rd_lcm ?_ ?_
  | with_reducible refine rd_forL ?_
  | with_reducible refine rd_forT ?_
  | with_reducible refine rd_forR1 ?_
  | with_reducible refine rd_forZ ?_
  | with_reducible refine rd_lcL ?_
  | with_reducible refine rd_lcT ?_
  | with_reducible refine rd_lcR1 ?_
  | with_reducible refine rd_lcR2 ?_
  | with_reducible refine rd_lcZ ?_
  | with_reducible refine rd_lc2TT ?_
  | with_reducible refine rd_abs ?_
  | with_reducible refine rd_int ?_
  | with_reducible refine rd_intB ?_
  | with_reducible refine rd_max2 ?_
  | with_reducible refine rd_min2 ?_
  | with_reducible refine rd_tup ?_
  | with_reducible refine rd_lst ?_
  | with_reducible refine ite_T ?_
  | with_reducible refine ite_n ?_
  | with_reducible refine ite_y ?_
  | with_reducible refine ite_F ?_
  | with_reducible refine rd_retN ?_)
local macro_rules | `(tactic| walk_at "rd") => `(tactic| repeat walk_at "rd1")
local macro_rules | `(tactic| walk_at "sd") => `(tactic| first | exact Or.inl ⟨by decide, by decide⟩ | exact Or.inr ⟨by decide, by decide⟩ | (show (0 : Int) < _; decide +kernel) | exact ⟨by decide, by decide, by decide +kernel⟩ | exact ⟨by decide, by decide +kernel⟩)
section
variable {P : Program} {w : World} {K : PySem.W.Frag} {mg : Str → Option Value} {base : Heap}
def sp_sum_of (K : PySem.W.Frag) : Sp := sp3 fun x y z H Q _ => ∃ rows ws n, RMat K H x rows ∧ RRow K H y ws ∧ z = .int (n : Nat) ∧ rows.length ≤ 8 ∧ (∀ r ∈ rows, SmR r) ∧ SmR ws ∧ n ≤ 8 ∧
  ∀ v H', Same H H' → RP K RI (RL K RI) H' v ((scN ws : Int) * (shN rows : Int), sumI ws rows n) → Q v H'
abbrev n_sum_of : List Str := ["rows", "weights", "width", "shared", "wholes", "found", "scale", "factors", "bottom", "numbers", "factor", "times", "row", "one", "number"]
theorem sc_sum_of : FnScope n_sum_of ["rows", "weights", "width"] (defScope s_sum_of) := ⟨rfl, rfl, rfl, by decide +kernel, rfl, by decide +kernel, by decide +kernel⟩
theorem cal_sum_of (T : Tx K mg) : Cal P w K mg base 2 "sum_of" (sp_sum_of K) := by
  refine cal_of (k := 1) T.G_sum_of T.D_sum_of sc_sum_of (fun _ _ _ _ _ _ us hl => match us, hl with | [_, _, _], _ => rfl) (fun vs H Q E h => ?_) (fun cdv A outer s H vs Q E hr h => ?_)
  · obtain ⟨v0, v1, v2, rfl, _⟩ := h
    rfl
  obtain ⟨v0, v1, v2, rfl, h⟩ := h
  refine ⟨_, pss_cons (ps_asg (pc (cal_whole_row T) hr (pa_cons (pv 1) pa_nil)) (kTup K (by rfl) (pgs_cons (pg_name (i := 6) sc_sum_of.nd rfl (by first | exact Or.inl rfl | exact Or.inr rfl)) (pgs_cons (pg_name (i := 7) sc_sum_of.nd rfl (by first | exact Or.inl rfl | exact Or.inr rfl)) pgs_nil))))
      (pss_cons (ps_set (i := 3) sc_sum_of.nd rfl (by first | exact Or.inl rfl | exact Or.inr rfl) pe_int)
      (pss_cons (ps_setLc (i := 4) (own := [("row", 12)]) (g := gName 12) (tt := tYes) (by rfl) sc_sum_of.nd rfl rfl (sw_true rfl rfl rfl (by decide +kernel)) (kPiT K (pv 0)) (blkOk_by (own := [("row", 12)]) (N := n_sum_of) (by rfl)) (fun _ _ _ _ _ => pg_name (i := 12) sc_sum_of.nd rfl (by first | exact Or.inl rfl | exact Or.inr rfl)) (fun _ _ _ _ _ => pts_nil) (fun _ _ _ _ _ => pe_hid (pc (cal_whole_row T) hr (pa_cons (pv 12) pa_nil))))
      (pss_cons (ps_for (passes_of rfl) rfl (kPiL K (pv 4)) (kTup K (by rfl) (pgs_cons (pg_name (i := 8) sc_sum_of.nd rfl (by first | exact Or.inl rfl | exact Or.inr rfl)) (pgs_cons (pg_name (i := 9) sc_sum_of.nd rfl (by first | exact Or.inl rfl | exact Or.inr rfl)) pgs_nil)))
        (pss_one (ps_set (i := 3) sc_sum_of.nd rfl (by first | exact Or.inl rfl | exact Or.inr rfl) (pe_callBfun cr_lcm (by rfl) T.B_lcm (pa_cons (pv 3) (pa_cons (pv 8) pa_nil))))))
      (pss_cons (ps_set (i := 5) sc_sum_of.nd rfl (by first | exact Or.inl rfl | exact Or.inr rfl) (pe_op op_rep (pe_lst (pa_cons pe_int pa_nil)) (pv 2)))
      (pss_cons (ps_for (passes_of rfl) rfl (kZip K (by rfl) T.N_zip (pa_cons (pv 7) (pa_cons (pv 4) pa_nil))) (kTup K (by rfl) (pgs_cons (pg_name (i := 10) sc_sum_of.nd rfl (by first | exact Or.inl rfl | exact Or.inr rfl)) (pgs_cons (kTup K (by rfl) (pgs_cons (pg_name (i := 8) sc_sum_of.nd rfl (by first | exact Or.inl rfl | exact Or.inr rfl)) (pgs_cons (pg_name (i := 9) sc_sum_of.nd rfl (by first | exact Or.inl rfl | exact Or.inr rfl)) pgs_nil))) pgs_nil)))
        (pss_cons (ps_set (i := 11) sc_sum_of.nd rfl (by first | exact Or.inl rfl | exact Or.inr rfl) (pe_op op_mulW (pv 10) (pe_op op_fdivA (pv 3) (pv 8))))
      (pss_one (ps_setLc (i := 5) (own := [("one", 13), ("number", 14)]) (g := gTup K 2 (gCons (gName 13) (gCons (gName 14) gNil))) (tt := tYes) (by rfl) sc_sum_of.nd rfl rfl (sw_true rfl rfl rfl (by decide +kernel)) (kZip K (by rfl) T.N_zip (pa_cons (pv 5) (pa_cons (pv 9) pa_nil))) (blkOk_by (own := [("one", 13), ("number", 14)]) (N := n_sum_of) (by rfl)) (fun _ _ _ _ _ => kTup K (by rfl) (pgs_cons (pg_name (i := 13) sc_sum_of.nd rfl (by first | exact Or.inl rfl | exact Or.inr rfl)) (pgs_cons (pg_name (i := 14) sc_sum_of.nd rfl (by first | exact Or.inl rfl | exact Or.inr rfl)) pgs_nil))) (fun _ _ _ _ _ => pts_nil) (fun _ _ _ _ _ => pe_hid (pe_op op_add (pv 13) (pe_op op_mulW (pv 11) (pv 14))))))))
      (pss_one (ps_ret (pe_tup (pa_cons (pe_op op_mulW (pv 6) (pv 3)) (pa_cons (pv 5) pa_nil)))))))))), ?_⟩
  obtain ⟨rows, ws, n, hrows, hws, rfl, hl, hs, hw, hn, k⟩ := h
  walk_at "rd"
  refine ⟨_, rfl, ws, hws, hw, fun v H1 e1 hv => ?_⟩
  refine rd_gpair hv (fun vs vf hvs hvf => ?_)
  obtain rfl := hvs
  walk_at "rd"
  refine lcT (hrows.up' e1) (fun J W hz => ?_)
  refine lcK_name (S := RP K RI (RL K RI)) (K := K) W hz (fun r => ((scN r : Int), nums (scN r) r)) (fun vw H2 e2 rw2 => ?_) (fun r G x hq e2 hr' Kt hk => ?_)
  case refine_2 =>
    walk_at "rd"
    exact ⟨_, rfl, r, hr', hs r hq, fun v H' e hv => hk v H' e hv⟩
  walk_at "rd"
  have hvf2 := hvf.up' e2
  refine forL rw2 (fun J W hz => ?_)
  refine forK W (fun i σ' H' => (∃ o8 o9 o10 o11 o12 o13 o14, σ' = [some v0, some v1, some (.int (n : Nat)), some (.int (shN (rows.take i) : Nat)), some vw, none, some (.int (scN ws : Nat)), some vf, o8, o9, o10, o11, o12, o13, o14]) ∧ Same H2 H') ⟨⟨_, _, _, _, _, _, _, rfl⟩, Same.refl _⟩ (fun _ _ _ h => h.2) (fun i σ' H' p x H'' ha hI e e' hx => ?_) (fun σ' H' hI => ?_)
  · obtain ⟨⟨o8, o9, o10, o11, o12, o13, o14, rfl⟩, _⟩ := hI
    rw [List.getElem?_map] at ha
    cases hr : rows[i]? with
    | none => rw [hr] at ha; cases ha
    | some r =>
      rw [hr] at ha
      cases ha
      refine rd_gpair hx (fun y z hy hz => ?_)
      obtain rfl := hy
      have b1 := sh_leT hl hs i
      have b2 := sc_le (hs r (List.mem_of_getElem? hr))
      walk_at "rd"
      · refine ⟨⟨some (.int (scN r : Nat)), some z, o10, o11, o12, o13, o14, ?_⟩, e'⟩
        rw [sh_snoc hr]
        rfl
      · exact ⟨Nat.lt_of_le_of_lt b1 (Nat.pow_lt_pow_right (by decide) (by decide)), Nat.lt_of_le_of_lt b2 (Nat.pow_lt_pow_right (by decide) (by decide))⟩
  · obtain ⟨⟨o8, o9, o10, o11, o12, o13, o14, rfl⟩, e3⟩ := hI
    rw [List.length_map, List.take_of_length_le (Nat.le_refl _)]
    walk_at "rd"
    refine ⟨by show 1 ≤ sizeLine; decide, fun p hp => ?_⟩
    have e4 := Same.new (o := .lst [V.int 0]) hp
    have h4 : upd H' p (.lst [V.int 0]) p = some (.lst [V.int 0]) := upd_same
    generalize upd H' p (.lst [V.int 0]) = H4 at *
    walk_at "rd"
    refine rd_rep h4 (by omega) (fun q H5 e5 h5 => ?_)
    have hf0 : RL K RI H5 (.ref q) (List.replicate n 0) := RL.repl h5 rfl (by omega)
    walk_at "rd"
    have e25 : Same H2 H5 := (e3.trans e4).trans e5
    refine forZ (hvf2.up' e25) (rw2.up' e25) (fun J W hz => ?_)
    refine forK W (fun i σ' H' => (∃ vfo o8 o9 o10 o11 o12 o13 o14, σ' = [some v0, some v1, some (.int (n : Nat)), some (.int (shN rows : Nat)), some vw, some vfo, some (.int (scN ws : Nat)), some vf, o8, o9, o10, o11, o12, o13, o14] ∧
      RL K RI H' vfo ((((nums (scN ws) ws).zip (rows.map fun r => ((scN r : Int), nums (scN r) r))).take i).foldl (stepI (shN rows)) (List.replicate n 0))) ∧ Same H5 H') ⟨⟨_, _, _, _, _, _, _, _, rfl, hf0⟩, Same.refl _⟩ (fun _ _ _ h => h.2) (fun i σ' H' p x H'' ha hI e e' hx => ?_) (fun σ' H' hI => ?_)
    · obtain ⟨⟨vfo, o8, o9, o10, o11, o12, o13, o14, rfl, hfo⟩, _⟩ := hI
      obtain ⟨f, b, ns⟩ := p
      have hmem := List.mem_of_getElem? ha
      obtain ⟨m1, m2⟩ := List.of_mem_zip hmem
      obtain ⟨r, hr2, er⟩ := List.mem_map.mp m2
      have eb : b = ((scN r : Nat) : Int) := (congrArg Prod.fst er).symm
      have en : ns = nums (scN r) r := (congrArg Prod.snd er).symm
      have bf := nums_one hw m1
      have bs := sh_le hl hs
      have sp := scN_pos r
      refine rd_gpair3 hx (fun y z u hy hz hu => ?_)
      obtain rfl := hy
      obtain rfl := hz
      walk_at "rd"
      · refine lcZ (hfo.up' e) hu (fun J W hz => ?_)
        refine lcK_pair (S := RI) (K := K) W hz (fun q => q.1 + f * (shN rows : Int).fdiv b * q.2) (fun v2 H6 e6 r6 => ?_) (fun q G x y hq e6 hx hy Kt hk => ?_)
        · walk_at "rd"
          refine ⟨⟨v2, _, _, _, _, _, _, _, rfl, ?_⟩, e'.trans e6⟩
          rw [List.take_succ, ha, List.foldl_append]
          exact r6
        · obtain rfl := hx
          obtain rfl := hy
          have hm : q.2 ∈ nums (scN r) r := by rw [← en]; exact (List.of_mem_zip (a := q.1) (b := q.2) hq).2
          walk_at "rd"
          · exact hk _ _ (Same.refl _) rfl
          · exact mul_of (a := 4893) (b := 604) (term_lt bf bs eb (nums_one (hs r hr2) hm)).1 (nums_one (hs r hr2) hm)
      · refine mul_of (a := 604) (b := 4289) bf ?_
        rw [eb]
        exact Nat.lt_of_le_of_lt fdiv_le (Nat.lt_of_le_of_lt bs (Nat.pow_lt_pow_right (by decide) (by decide)))
      · rw [eb]
        exact div_of (b := 537) (by omega) (by rw [Int.natAbs_natCast]; exact Nat.lt_of_le_of_lt (sc_le (hs r hr2)) (Nat.pow_lt_pow_right (by decide) (by decide)))
    · obtain ⟨⟨vfo, o8, o9, o10, o11, o12, o13, o14, rfl, hfo⟩, e6⟩ := hI
      rw [List.take_of_length_le (Nat.le_refl _)] at hfo
      walk_at "rd"
      · refine rd_newT (fun p H7 hp e7 h7 => ?_) (by show 2 ≤ sizeLine; decide)
        exact k _ _ ((((e1.trans e2).trans e25).trans e6).trans e7) (RP.at h7 rfl (hfo.up' e7))
      · exact mul_of (a := 537) (b := 4289) (by rw [Int.natAbs_natCast]; exact Nat.lt_of_le_of_lt (sc_le hw) (Nat.pow_lt_pow_right (by decide) (by decide))) (by rw [Int.natAbs_natCast]; exact Nat.lt_of_le_of_lt (sh_le hl hs) (Nat.pow_lt_pow_right (by decide) (by decide)))
end
end LW
end
section
set_option Elab.async false
set_option linter.all false
set_option maxRecDepth 100000
set_option maxHeartbeats 4000000
set_option exponentiation.threshold 20000
namespace LW
open PySem PySem.Spec PyProof.Rows L2 Wo
local macro_rules | `(tactic| walk_at "lf") => `(tactic| first | assumption | (refine Up.up (by assumption) ?_; walk_at "lf") | (refine RAll.up (by assumption) ?_; walk_at "lf") | (refine Ob2.up (by assumption) ?_; walk_at "lf"))
local macro_rules | `(tactic| walk_at "side") => `(tactic| first | (unfold CMul; omega) | (unfold CDiv; omega) | (unfold CDivN; omega) | (unfold CPow; omega) | (show (0 : Int) < _; omega) | decide)
local macro_rules | `(tactic| walk_at "rd1") => `(tactic| first
  | ((with_reducible refine rd_var (v := ?v) ?h ?_); (case h => rfl))
  | with_reducible refine rd_c ?_
  | with_reducible refine rd_op ?_
  | with_reducible refine rd_I0 ?_
  | with_reducible refine rd_I ?_ ?_
  | with_reducible refine rd_U ?_
  | with_reducible refine rd_eqI ?_
  | with_reducible refine rd_neI ?_
  | with_reducible refine rd_eqS ?_
  | with_reducible refine rd_neS ?_
  | with_reducible refine rd_un ?_
  | with_reducible refine rd_test ?_
  | with_reducible refine rd_tB ?_
  | with_reducible refine rd_exB ?_
  | with_reducible refine rd_cons ?_
  | with_reducible refine rd_nil ?_
  | with_reducible refine rd_call ?_
  | with_reducible refine rd_cb ?_
  | with_reducible refine rd_seq ?_
  | with_reducible refine rd_asg ?_
  | with_reducible refine rd_gname ?_
  | with_reducible refine rd_ret ?_
  | with_reducible refine rd_ifS ?_
  | with_reducible refine rd_next ?_
  | with_reducible refine rd_drop ?_
  | with_reducible refine rd_if ?_
  | with_reducible refine rd_not ?_
  | with_reducible refine rd_and ?_
  | with_reducible refine rd_or ?_
  | with_reducible refine rd_andV ?_
  | with_reducible refine rd_orV ?_
  | with_reducible refine rd_notV ?_
  | with_reducible refine rd_chain ?_
  | with_reducible refine rd_slot ?_
  | with_reducible refine rd_sst ?_
  | with_reducible refine rd_par ?_
  | with_reducible refine rd_ex2 ?_
  | with_reducible refine rd_gcd ?_
  | with_reducible refine rd_prop ?_
  | with_reducible refine rd_sub ?_
  | with_reducible refine rd_lcm ?_ ?_
  | with_reducible refine rd_forL ?_
  | with_reducible refine rd_forT ?_
  | with_reducible refine rd_forR1 ?_
  | with_reducible refine rd_forZ ?_
  | with_reducible refine rd_lcL ?_
  | with_reducible refine rd_lcT ?_
  | with_reducible refine rd_lcR1 ?_
  | with_reducible refine rd_lcR2 ?_
  | with_reducible refine rd_lcZ ?_
  | with_reducible refine rd_lc2TT ?_
  | with_reducible refine rd_abs ?_
  | with_reducible refine rd_int ?_
  | with_reducible refine rd_intB ?_
  | with_reducible refine rd_max2 ?_
  | with_reducible refine rd_min2 ?_
  | with_reducible refine rd_tup ?_
  | with_reducible refine rd_lst ?_
  | with_reducible refine ite_T ?_
  | with_reducible refine ite_n ?_
  | with_reducible refine ite_y ?_
  | with_reducible refine ite_F ?_
  | with_reducible refine rd_retN ?_)
local macro_rules | `(tactic| walk_at "rd") => `(tactic| repeat walk_at "rd1")
local macro_rules | `(tactic| walk_at "sd") => `(tactic| first | exact Or.inl ⟨by decide, by decide⟩ | exact Or.inr ⟨by decide, by decide⟩ | (show (0 : Int) < _; decide +kernel) | exact ⟨by decide, by decide, by decide +kernel⟩ | exact ⟨by decide, by decide +kernel⟩)
section
variable {P : Program} {w : World} {K : PySem.W.Frag} {mg : Str → Option Value} {base : Heap}
theorem ei_R (T : Tx K mg) {n : Nat} (h : 1 ≤ n) : EiC P w K mg base n (RR K) := ei_rat (cal_Ratio___eq__ T) T.O_Ratio___eq__ h
theorem ei_Row (T : Tx K mg) {n : Nat} (h : 1 ≤ n) : EiC P w K mg base (n + 1) (RRow K) := ei_tup (ei_R T h)
theorem ec_Mat (T : Tx K mg) {n : Nat} (h : 1 ≤ n) : EqC P w K mg base (n + 2) (RMat K) := ec_tup (ei_Row T h)
theorem nc_Mat (T : Tx K mg) {n : Nat} (h : 1 ≤ n) : NeC P w K mg base (n + 2) (RMat K) := nc_tup (ei_Row T h)
theorem RT.emp {K : PySem.W.Frag} {α : Type} {R : Rl α} {H : Hp} {p : Addr} (h : H p = some (.tup [])) : RT K R H (.ref p) [] := RT.at h .nil (by show 0 ≤ sizeLine; decide)
theorem wd_le {rows : List (List Rat)} (h : Few rows) : wd rows ≤ 8 := by
  cases rows with
  | nil => exact Nat.zero_le _
  | cons r t => exact h.2.1 r List.mem_cons_self
def sp_multiplied (K : PySem.W.Frag) : Sp := sp2 fun x y H Q _ => ∃ rows others, RMat K H x rows ∧ RMat K H y others ∧ Few rows ∧ Few others ∧ (∀ r ∈ rows, ∀ q ∈ r, Sm q) ∧ (∀ r ∈ others, ∀ q ∈ r, Sm q) ∧
  (rows = [] ∨ wd rows = others.length) ∧ ∀ v H', Same H H' → RMat K H' v (mm rows others) → Q v H'
abbrev n_multiplied : List Str := ["rows", "others", "found", "row", "scale", "numbers"]
theorem sc_multiplied : FnScope n_multiplied ["rows", "others"] (defScope s_multiplied) := ⟨rfl, rfl, rfl, by decide +kernel, rfl, by decide +kernel, by decide +kernel⟩
theorem cal_multiplied (T : Tx K mg) : Cal P w K mg base 10 "multiplied" (sp_multiplied K) := by
  refine cal_of (k := 9) T.G_multiplied T.D_multiplied sc_multiplied (fun _ _ _ _ _ _ us hl => match us, hl with | [_, _], _ => rfl) (fun vs H Q E h => ?_) (fun cdv A outer s H vs Q E hr h => ?_)
  · obtain ⟨v0, v1, rfl, _⟩ := h
    rfl
  obtain ⟨v0, v1, rfl, h⟩ := h
  refine ⟨_, pss_cons (ps_expr (pc (cal_require_rows T) hr (pa_cons (pv 0) pa_nil)))
      (pss_cons (ps_expr (pc (cal_require_rows T) hr (pa_cons (pv 1) pa_nil)))
      (pss_cons (ps_expr (pc (cal_require_small T) hr (pa_cons (pv 0) (pa_cons (pv 1) pa_nil))))
      (pss_cons (ps_if (PW.pt (pw_and (pt_cmpR (neX P w K mg base hr) (pv 0) (pe_tup pa_nil) (nomark _)) (pw_and1 (pt_cmpR op_ne (pc (cal_width_of T) hr (pa_cons (pv 0) pa_nil)) (pe_callB (kLen K) (by rfl) T.N_len (by decide +kernel) (pa_cons (pv 1) pa_nil)) (nomark _)))))
        (pss_one ps_never)
        (pss_nil))
      (pss_cons (ps_setLc (i := 2) (own := [("row", 3)]) (g := gName 3) (tt := tYes) (by rfl) sc_multiplied.nd rfl rfl (sw_true rfl rfl rfl (by decide +kernel)) (kPiT K (pv 0)) (blkOk_by (own := [("row", 3)]) (N := n_multiplied) (by rfl)) (fun _ _ _ _ _ => pg_name (i := 3) sc_multiplied.nd rfl (by first | exact Or.inl rfl | exact Or.inr rfl)) (fun _ _ _ _ _ => pts_nil) (fun _ _ _ _ _ => pe_hid (pc (cal_sum_of T) hr (pa_cons (pv 1) (pa_cons (pv 3) (pa_cons (pc (cal_width_of T) hr (pa_cons (pv 1) pa_nil)) pa_nil))))))
      (pss_one (ps_ret (pe_callTy (kTuple K) (by rfl) T.N_tuple (by decide +kernel) (pa_cons (pe_lc (own := [("scale", 4), ("numbers", 5)]) (g := gTup K 2 (gCons (gName 4) (gCons (gName 5) gNil))) (tt := tYes) (by rfl) sc_multiplied.nd (kPiL K (pv 2)) (blkOk_by (own := [("scale", 4), ("numbers", 5)]) (N := n_multiplied) (by rfl)) (fun _ _ _ _ _ => kTup K (by rfl) (pgs_cons (pg_name (i := 4) sc_multiplied.nd rfl (by first | exact Or.inl rfl | exact Or.inr rfl)) (pgs_cons (pg_name (i := 5) sc_multiplied.nd rfl (by first | exact Or.inl rfl | exact Or.inr rfl)) pgs_nil))) (fun _ _ _ _ _ => pts_nil) (fun _ _ _ _ _ => pe_hid (pc (cal_ratio_row T) hr (pa_cons (pv 5) (pa_cons (pv 4) pa_nil))))) pa_nil)))))))), ?_⟩
  obtain ⟨rows, others, hrows, hoth, hf, hf', hs, hs', hwd, k⟩ := h
  walk_at "rd"
  refine ⟨_, rfl, rows, hrows, hf, fun H1 e1 => ?_⟩
  walk_at "rd"
  refine ⟨_, rfl, others, hoth.up' e1, hf', fun H2 e2 => ?_⟩
  walk_at "rd"
  refine small2 (hrows.up' (e1.trans e2)) (hoth.up' (e1.trans e2)) hf hs hf' hs' fun H3 e3 => ?_
  have e03 := (e1.trans e2).trans e3
  walk_at "rd"
  refine ⟨by show 0 ≤ sizeLine; decide, fun p hp => ?_⟩
  have e4 := Same.new (o := .tup []) hp
  have h4 : upd H3 p (.tup []) p = some (.tup []) := upd_same
  generalize upd H3 p (.tup []) = H4 at *
  have e04 := e03.trans e4
  refine rd_neX (R := RMat K) (a := rows) (b := []) (nc_Mat T (by decide)) (hrows.up' e04) (RT.emp h4) (fun H5 e5 => ?_)
  have e05 := e04.trans e5
  walk_at "rd"
  refine ite_ndec (fun hne => ?aa) (fun hne => ?bb)
  case' aa =>
    walk_at "rd"
    refine ⟨_, rfl, rows, hrows.up' e05, ?_⟩
    walk_at "rd"
    refine rd_lenT (hoth.up' e05) ?_
    walk_at "rd"
    have hw2 : ((wd rows : Nat) : Int) = ((others.length : Nat) : Int) := by
      rcases hwd with h | h
      · exact absurd h hne
      · omega
    rw [decide_eq_true hw2]
    walk_at "rd"
  case' bb => walk_at "rd"
  all_goals
    refine lcT (hrows.up' e05) (fun J W hz => ?_)
    refine lcK_name (S := RP K RI (RL K RI)) (K := K) W hz (fun row => ((scN row : Int) * (shN others : Int), sumI row others (wd others))) (fun v H6 e6 r6 => ?_) (fun row G x hq e6 hx Kt hk => ?_)
    · walk_at "rd"
      refine lcL r6 (fun J W hz => ?_)
      refine lcK_pair (S := RRow K) (K := K) W hz (fun p => p.2.map fun n => Rat.divInt n p.1) (fun v H7 e7 r7 => ?_) (fun p G x y hq e7 hx hy Kt hk => ?_)
      · walk_at "rd"
        refine rd_tupleL r7 fun v H8 e8 r8 => k v H8 (((e05.trans e6).trans e7).trans e8) ?_
        rw [List.map_map] at r8
        have e : rows.map ((fun p : Int × List Int => p.2.map fun n => Rat.divInt n p.1) ∘ fun row => ((scN row : Int) * (shN others : Int), sumI row others (wd others))) = mm rows others := List.map_congr_left fun row _ => sum_of_vm row others (wd others)
        rw [e] at r8
        exact r8
      · obtain ⟨row, hrow, rfl⟩ := List.mem_map.mp hq
        obtain rfl := hx
        obtain ⟨b1, b2, b3⟩ := ratio_lt (w := wd others) (hf.row hs hrow) hf'.1 (fun r hr => hf'.row hs' hr)
        walk_at "rd"
        exact ⟨_, _, rfl, _, _, hy, rfl, b1, b2, b3, fun v H' e hv => hk v H' e hv⟩
    · walk_at "rd"
      refine ⟨_, rfl, others, hoth.up' (e05.trans e6), ?_⟩
      walk_at "rd"
      exact ⟨_, _, _, rfl, others, row, wd others, hoth.up' (e05.trans e6), hx, rfl, hf'.1, fun r hr => hf'.row hs' hr, hf.row hs hq, wd_le hf', fun v H' e hv => hk v H' e hv⟩
end
end LW
end
section
set_option Elab.async false
set_option linter.all false
set_option maxRecDepth 100000
set_option maxHeartbeats 4000000
set_option exponentiation.threshold 20000
namespace LW
open PySem PySem.Spec PyProof.Rows L2 Wo
local macro_rules | `(tactic| walk_at "lf") => `(tactic| first | assumption | (refine Up.up (by assumption) ?_; walk_at "lf") | (refine RAll.up (by assumption) ?_; walk_at "lf") | (refine Ob2.up (by assumption) ?_; walk_at "lf"))
local macro_rules | `(tactic| walk_at "side") => `(tactic| first | (unfold CMul; omega) | (unfold CDiv; omega) | (unfold CDivN; omega) | (unfold CPow; omega) | (show (0 : Int) < _; omega) | decide)
local macro_rules | `(tactic| walk_at "rd1") => `(tactic| first
  | ((with_reducible refine rd_var (v := ?v) ?h ?_); (case h => rfl))
  | with_reducible refine rd_c ?_
  | with_reducible refine rd_op ?_
  | with_reducible refine rd_I0 ?_
  | with_reducible refine rd_I ?_ ?_
  | with_reducible refine rd_U ?_
  | with_reducible refine rd_eqI ?_
  | with_reducible refine rd_neI ?_
  | with_reducible refine rd_eqS ?_
  | with_reducible refine rd_neS ?_
  | with_reducible refine rd_un ?_
  | with_reducible refine rd_test ?_
  | with_reducible refine rd_tB ?_
  | with_reducible refine rd_exB ?_
  | with_reducible refine rd_cons ?_
  | with_reducible refine rd_nil ?_
  | with_reducible refine rd_call ?_
  | with_reducible refine rd_cb ?_
  | with_reducible refine rd_seq ?_
  | with_reducible refine rd_asg ?_
  | with_reducible refine rd_gname ?_
  | with_reducible refine rd_ret ?_
  | with_reducible refine rd_ifS ?_
  | with_reducible refine rd_next ?_
  | with_reducible refine rd_drop ?_
  | with_reducible refine rd_if ?_
  | with_reducible refine rd_not ?_
  | with_reducible refine rd_and ?_
  | with_reducible refine rd_or ?_
  | with_reducible refine rd_andV ?_
  | with_reducible refine rd_orV ?_
  | with_reducible refine rd_notV ?_
  | with_reducible refine rd_chain ?_
  | with_reducible refine rd_slot ?_
  | with_reducible refine rd_sst ?_
  | with_reducible refine rd_par ?_
  | with_reducible refine rd_ex2 ?_
  | with_reducible refine rd_gcd ?_
  | with_reducible refine rd_prop ?_
  | with_reducible refine rd_sub ?_
  | with_reducible refine rd_lcm ?_ ?_
  | with_reducible refine rd_forL ?_
  | with_reducible refine rd_forT ?_
  | with_reducible refine rd_forR1 ?_
  | with_reducible refine rd_forZ ?_
  | with_reducible refine rd_lcL ?_
  | with_reducible refine rd_lcT ?_
  | with_reducible refine rd_lcR1 ?_
  | with_reducible refine rd_lcR2 ?_
  | with_reducible refine rd_lcZ ?_
  | with_reducible refine rd_lc2TT ?_
  | with_reducible refine rd_abs ?_
  | with_reducible refine rd_int ?_
  | with_reducible refine rd_intB ?_
  | with_reducible refine rd_max2 ?_
  | with_reducible refine rd_min2 ?_
  | with_reducible refine rd_tup ?_
  | with_reducible refine rd_lst ?_
  | with_reducible refine ite_T ?_
  | with_reducible refine ite_n ?_
  | with_reducible refine ite_y ?_
  | with_reducible refine ite_F ?_
  | with_reducible refine rd_retN ?_)
local macro_rules | `(tactic| walk_at "rd") => `(tactic| repeat walk_at "rd1")
local macro_rules | `(tactic| walk_at "sd") => `(tactic| first | exact Or.inl ⟨by decide, by decide⟩ | exact Or.inr ⟨by decide, by decide⟩ | (show (0 : Int) < _; decide +kernel) | exact ⟨by decide, by decide, by decide +kernel⟩ | exact ⟨by decide, by decide +kernel⟩)
section
variable {P : Program} {w : World} {K : PySem.W.Frag} {mg : Str → Option Value} {base : Heap}
theorem rd_setC {H : Hp} {Q : Hp → Prop} {u : Addr} {xs : List V} {n : Nat} {v : V} {i : Int} (h : H u = some (.lst xs)) (k : ∀ H', (∀ p o, H p = some o → p ≠ u → H' p = some o) → H' u = some (.lst (xs.set n v)) → Q H') (hl : n < xs.length := by decide) (hn : i = (n : Int) := by rfl) : rSetL (.ref u) (.int i) v H Q := by
  subst hn
  refine ⟨u, xs, n, n, rfl, rfl, h, ?_, k _ (fun p o e ne => by rw [upd_ne ne]; exact e) upd_same⟩
  unfold ixN
  rw [if_pos (by omega), if_pos (by omega), Int.toNat_natCast]
/-- a well: four ints -/
def Pw (xs : List V) : Prop := ∃ a b c d : Int, xs = [.int a, .int b, .int c, .int d]
def sp_w_well (K : PySem.W.Frag) : Sp := sp2 fun x y H Q _ => ∃ (ns : List Int) (i : Nat), RL K RI H x ns ∧ y = .int i ∧ ∀ u H' a b c d, Same H H' → H u = none → H' u = some (.lst [.int a, .int b, .int c, .int d]) → Q (.ref u) H'
abbrev n_w_well : List Str := ["_law_script", "_law_at", "_law_cell", "_law_great", "_law_seed"]
theorem sc_w_well : FnScope n_w_well ["_law_script", "_law_at"] (defScope s_w_well) := ⟨rfl, rfl, rfl, by decide +kernel, rfl, by decide +kernel, by decide +kernel⟩
theorem cal_w_well (T : Tx K mg) : Cal P w K mg base 1 "_law_well" (sp_w_well K) := by
  refine cal_of (k := 0) T.G_w_well T.D_w_well sc_w_well (fun _ _ _ _ _ _ us hl => match us, hl with | [_, _], _ => rfl) (fun vs H Q E h => ?_) (fun cdv A outer s H vs Q E hr h => ?_)
  · obtain ⟨v0, v1, rfl, _⟩ := h
    rfl
  obtain ⟨v0, v1, rfl, h⟩ := h
  refine ⟨_, pss_cons (ps_set (i := 2) sc_w_well.nd rfl (by first | exact Or.inl rfl | exact Or.inr rfl) (pe_ifExp (pt_cmpR op_lt (pv 1) (pe_callB (kLen K) (by rfl) T.N_len (by decide +kernel) (pa_cons (pv 0) pa_nil)) (nomark _)) (pe_callTy bi_int1 (by rfl) T.N_int (by decide +kernel) (pa_cons (pe_ix (kIxL K) (pv 0) (pv 1) (fun _ _ => rfl)) pa_nil)) (pe_op op_add (pe_op op_mul pe_int (pv 1)) pe_int)))
      (pss_cons (ps_set (i := 3) sc_w_well.nd rfl (by first | exact Or.inl rfl | exact Or.inr rfl) (pe_op op_mod (pe_callTy bi_int1 (by rfl) T.N_int (by decide +kernel) (pa_cons (pe_callB bi_abs (by rfl) T.N_abs (by decide +kernel) (pa_cons (pv 2) pa_nil)) pa_nil)) (pe_op op_powW (pe_op op_pow pe_int pe_int) pe_int)))
      (pss_cons (ps_set (i := 4) sc_w_well.nd rfl (by first | exact Or.inl rfl | exact Or.inr rfl) (pe_op op_mod (pe_callTy bi_int1 (by rfl) T.N_int (by decide +kernel) (pa_cons (pe_op op_add (pe_op op_add (pe_op op_add (pe_op op_mul (pv 3) pe_int) (pe_op op_mul pe_int (pv 1))) (pe_op op_mul pe_int (pe_callTy bi_int1 (by rfl) T.N_int (by decide +kernel) (pa_cons (pe_cmpR op_lt (pv 2) pe_int (nomark _)) pa_nil)))) pe_int) pa_nil)) pe_int))
      (pss_one (ps_ret (pe_lst (pa_cons (pe_callB (bi_max2 rfl) (by rfl) T.N_max (by decide +kernel) (pa_cons pe_int (pa_cons (pe_op op_sub (pv 3) (pe_op op_pow pe_int pe_int)) pa_nil))) (pa_cons (pv 4) (pa_cons pe_int (pa_cons pe_int pa_nil))))))))), ?_⟩
  obtain ⟨ns, i, hns, rfl, k⟩ := h
  walk_at "rd"
  refine rd_lenL hns ?_
  walk_at "rd"
  refine ite_dec (fun hlt => ?aa) (fun hlt => ?bb)
  case' aa =>
    walk_at "rd"
    have hi : i < ns.length := by omega
    refine rd_ixL (n := i) (a := ns[i]) hns (by simp [hi]) (fun w' hw => ?_)
    obtain rfl := hw
    walk_at "rd"
  case' bb => walk_at "rd"
  all_goals first
    | exact ⟨by show 4 ≤ sizeLine; decide, fun p hp => k _ _ _ _ _ _ (Same.new hp) hp upd_same⟩
    | walk_at "sd"
/-- a new well, opaque -/
def sp_well (K : PySem.W.Frag) : Sp := sp2 fun x y H Q _ => ∃ (ns : List Int) (i : Nat), RL K RI H x ns ∧ y = .int i ∧ ∀ u H', Same H H' → H' u = some (UrnO u Pw) → Q (.ref u) H'
theorem cal_well (T : Tx K mg) : Cal P w K mg base 1 "_law_well" (sp_well K) := by
  obtain ⟨f, h1, h2, F⟩ := cal_w_well (P := P) (w := w) (base := base) T
  refine ⟨f, h1, h2, fnR_made (p := Pw) F fun vs H Q E h => ?_⟩
  obtain ⟨x, y, rfl, ns, i, hns, rfl, k⟩ := h
  refine ⟨_, _, rfl, ns, i, hns, rfl, fun u H' a b c d e hu hu' => ⟨u, _, rfl, hu', ⟨a, b, c, d, rfl⟩, hu, k u _ (fun q o z => ?_) upd_same⟩⟩
  rw [upd_ne (ne_of_none z hu)]
  exact e q o z
def sp_w_dip (K : PySem.W.Frag) : Sp := sp2 fun x y H Q _ => ∃ (u : Addr) (a b c d t : Int), x = .ref u ∧ H u = some (.lst [.int a, .int b, .int c, .int d]) ∧ y = .int t ∧ 0 < t ∧ t ≤ 1000 ∧
  ∀ k a' b' c' d' H', 0 ≤ k → k < t → (∀ p o, H p = some o → p ≠ u → H' p = some o) → H' u = some (.lst [.int a', .int b', .int c', .int d']) → Q (.int k) H'
abbrev n_w_dip : List Str := ["_law_well_here", "_law_total", "_law_one", "_law_two", "_law_found"]
theorem sc_w_dip : FnScope n_w_dip ["_law_well_here", "_law_total"] (defScope s_w_dip) := ⟨rfl, rfl, rfl, by decide +kernel, rfl, by decide +kernel, by decide +kernel⟩
theorem cal_w_dip (T : Tx K mg) : Cal P w K mg base 1 "_law_dip" (sp_w_dip K) := by
  refine cal_of (k := 0) T.G_w_dip T.D_w_dip sc_w_dip (fun _ _ _ _ _ _ us hl => match us, hl with | [_, _], _ => rfl) (fun vs H Q E h => ?_) (fun cdv A outer s H vs Q E hr h => ?_)
  · obtain ⟨v0, v1, rfl, _⟩ := h
    rfl
  obtain ⟨v0, v1, rfl, h⟩ := h
  refine ⟨_, pss_cons (ps_if (pt_cmpR op_gt (pe_ix (kIxL K) (pv 0) pe_int (fun _ _ => rfl)) pe_int (nomark _))
        (pss_cons (ps_set (i := 4) sc_w_dip.nd rfl (by first | exact Or.inl rfl | exact Or.inr rfl) (pe_op op_mod (pe_callTy bi_int1 (by rfl) T.N_int (by decide +kernel) (pa_cons (pe_ix (kIxL K) (pv 0) pe_int (fun _ _ => rfl)) pa_nil)) (pv 1)))
      (pss_cons (ps_asg (pe_op op_fdivA (pe_callTy bi_int1 (by rfl) T.N_int (by decide +kernel) (pa_cons (pe_ix (kIxL K) (pv 0) pe_int (fun _ _ => rfl)) pa_nil)) (pv 1)) (pg_sub (pv 0) pe_int set_list))
      (pss_one (ps_ret (pv 4)))))
        (pss_nil))
      (pss_cons (ps_asg (pe_op op_add (pe_ix (kIxL K) (pv 0) pe_int (fun _ _ => rfl)) pe_int) (pg_sub (pv 0) pe_int set_list))
      (pss_cons (ps_set (i := 2) sc_w_dip.nd rfl (by first | exact Or.inl rfl | exact Or.inr rfl) (pe_op op_mod (pe_callTy bi_int1 (by rfl) T.N_int (by decide +kernel) (pa_cons (pe_op op_add (pe_op op_add (pe_op op_mul (pe_ix (kIxL K) (pv 0) pe_int (fun _ _ => rfl)) pe_int) (pe_op op_mul (pe_ix (kIxL K) (pv 0) pe_int (fun _ _ => rfl)) pe_int)) pe_int) pa_nil)) pe_int))
      (pss_cons (ps_set (i := 3) sc_w_dip.nd rfl (by first | exact Or.inl rfl | exact Or.inr rfl) (pe_op op_mod (pe_callTy bi_int1 (by rfl) T.N_int (by decide +kernel) (pa_cons (pe_op op_add (pe_op op_mulW (pv 2) (pv 2)) (pe_op op_mul pe_int (pe_ix (kIxL K) (pv 0) pe_int (fun _ _ => rfl)))) pa_nil)) pe_int))
      (pss_one (ps_ret (pe_op op_mod (pe_callTy bi_int1 (by rfl) T.N_int (by decide +kernel) (pa_cons (pe_op op_fdivA (pe_op op_mod (pe_callTy bi_int1 (by rfl) T.N_int (by decide +kernel) (pa_cons (pe_op op_add (pe_op op_mul (pv 3) pe_int) (pv 2)) pa_nil)) pe_int) pe_int) pa_nil)) (pv 1))))))), ?_⟩
  obtain ⟨u, a, b, c, d, t, rfl, hu, rfl, ht, ht2, k⟩ := h
  have hdiv : CDivA a t := div_of (b := 10) (by omega) (by omega)
  walk_at "rd"
  refine rd_ixC (n := 0) hu ?_
  walk_at "rd"
  refine ite_dec (fun hn => ?_) (fun hn => ?_)
  · walk_at "rd"
    refine rd_ixC (n := 0) hu ?_
    walk_at "rd"
    · refine rd_ixC (n := 0) hu ?_
      walk_at "rd"
      · refine rd_setC (n := 0) hu (fun H2 h3 h2 => ?_) (by show 0 < 4; decide)
        walk_at "rd"
        exact k _ _ _ _ _ _ (Int.emod_nonneg _ (by omega)) (Int.emod_lt_of_pos _ ht) h3 h2
      · exact hdiv
    · exact ht
  · walk_at "rd"
    refine rd_ixC (n := 2) hu ?_
    walk_at "rd"
    refine rd_setC (n := 2) hu (fun H2 h3 h2 => ?_) (by show 2 < 4; decide)
    walk_at "rd"
    refine rd_ixC (n := 1) h2 ?_
    walk_at "rd"
    · refine rd_ixC (n := 2) h2 ?_
      walk_at "rd"
      · refine rd_ixC (n := 2) h2 ?_
        walk_at "rd"
        · exact k _ _ _ _ _ _ (Int.emod_nonneg _ (by omega)) (Int.emod_lt_of_pos _ ht) h3 h2
        · exact ht
        · exact div_of (b := 17) (by decide) (by decide)
        all_goals walk_at "sd"
      all_goals first
        | walk_at "sd"
        | exact mul_of (a := 61) (b := 61) (by omega) (by omega)
    all_goals walk_at "sd"
/-- the next number below t, from an opaque well -/
def sp_dip (K : PySem.W.Frag) : Sp := sp2 fun x y H Q _ => ∃ (u : Addr) (t : Int), x = .ref u ∧ H u = some (UrnO u Pw) ∧ y = .int t ∧ 0 < t ∧ t ≤ 1000 ∧ ∀ k H', 0 ≤ k → k < t → Same H H' → Q (.int k) H'
theorem cal_dip (T : Tx K mg) : Cal P w K mg base 1 "_law_dip" (sp_dip K) := by
  obtain ⟨f, h1, h2, F⟩ := cal_w_dip (P := P) (w := w) (base := base) T
  refine ⟨f, h1, h2, fnR_urn (p := Pw) F fun vs H Q E h => ?_⟩
  obtain ⟨x, y, rfl, u, t, rfl, hu, rfl, ht, ht2, k⟩ := h
  refine ⟨u, hu, ?_⟩
  rintro xs ⟨a, b, c, d, rfl⟩
  refine ⟨_, _, rfl, u, a, b, c, d, t, rfl, upd_same, rfl, ht, ht2, fun i a' b' c' d' H' h0 h1 hk hu' => ⟨_, ⟨a', b', c', d', rfl⟩, hu', k i _ h0 h1 fun p o e => ?_⟩⟩
  by_cases z : p = u
  · subst z
    rw [upd_same, ← e, hu]
  · rw [upd_ne z]
    exact hk p o (by rw [upd_ne z]; exact e) z
/-- a ratio as a pair of ints -/
def RQP (K : PySem.W.Frag) : Rl Rat := fun H v q => RP K RI RI H v (q.num, (q.den : Int))
instance {K : PySem.W.Frag} : Up (RQP K) := ⟨fun e h => Up.up (R := RP K RI RI) e h⟩
def sp_w_low (K : PySem.W.Frag) : Sp := sp2 fun x y H Q _ => ∃ t b : Int, x = .int t ∧ y = .int b ∧ 0 < b ∧ b.natAbs < 2 ^ 8999 ∧ ∀ v H', Same H H' → RQP K H' v (Rat.divInt t b) → Q v H'
abbrev n_w_low : List Str := ["_law_top", "_law_bottom", "_law_one", "_law_other"]
theorem sc_w_low : FnScope n_w_low ["_law_top", "_law_bottom"] (defScope s_w_low) := ⟨rfl, rfl, rfl, by decide +kernel, rfl, by decide +kernel, by decide +kernel⟩
theorem cal_w_low (T : Tx K mg) : Cal P w K mg base 1 "_law_low" (sp_w_low K) := by
  refine cal_of (k := 0) T.G_w_low T.D_w_low sc_w_low (fun _ _ _ _ _ _ us hl => match us, hl with | [_, _], _ => rfl) (fun vs H Q E h => ?_) (fun cdv A outer s H vs Q E hr h => ?_)
  · obtain ⟨v0, v1, rfl, _⟩ := h
    rfl
  obtain ⟨v0, v1, rfl, h⟩ := h
  refine ⟨_, pss_cons (ps_par (i := 2) (j := 3) (by rfl) sc_w_low.nd rfl rfl (by decide) rfl rfl (pa_cons (pe_callB bi_abs (by rfl) T.N_abs (by decide +kernel) (pa_cons (pv 0) pa_nil)) (pa_cons (pe_callB bi_abs (by rfl) T.N_abs (by decide +kernel) (pa_cons (pv 1) pa_nil)) pa_nil)) (by rfl))
      (pss_cons (ps_while (passes_of rfl) (pt_cmpR op_gt (pv 3) pe_int (nomark _))
        (pss_one (ps_par (i := 2) (j := 3) (by rfl) sc_w_low.nd rfl rfl (by decide) rfl rfl (pa_cons (pv 3) (pa_cons (pe_op op_mod (pe_callTy bi_int1 (by rfl) T.N_int (by decide +kernel) (pa_cons (pv 2) pa_nil)) (pv 3)) pa_nil)) (by rfl))))
      (pss_one (ps_ret (pe_ifExp (pt_cmpR op_gt (pv 1) pe_int (nomark _)) (pe_tup (pa_cons (pe_op op_fdivA (pv 0) (pv 2)) (pa_cons (pe_op op_fdivA (pv 1) (pv 2)) pa_nil))) (pe_tup (pa_cons (pe_op op_sub pe_int (pe_op op_fdivA (pv 0) (pv 2))) (pa_cons (pe_op op_sub pe_int (pe_op op_fdivA (pv 1) (pv 2))) pa_nil))))))), ?_⟩
  obtain ⟨t, b, rfl, rfl, hb, hb2, k⟩ := h
  walk_at "rd"
  refine ⟨fun m σ' H' => H' = H ∧ ∃ x y : Nat, σ' = [some (.int t), some (.int b), some (.int (x : Nat)), some (.int (y : Nat))] ∧ m = y ∧ Nat.gcd x y = Nat.gcd t.natAbs b.natAbs, ⟨_, rfl, _, _, rfl, rfl, rfl⟩, ?_⟩
  rintro m σ' H' ⟨rfl, x, y, rfl, rfl, hg⟩
  walk_at "rd"
  refine ite_dec (fun hy => ?_) (fun hy => ?_)
  · refine ⟨fun σ' H'' => ∃ m', m' < m ∧ H'' = H' ∧ ∃ x y : Nat, σ' = [some (.int t), some (.int b), some (.int (x : Nat)), some (.int (y : Nat))] ∧ m' = y ∧ Nat.gcd x y = Nat.gcd t.natAbs b.natAbs, fun _ _ h => h, ?_⟩
    walk_at "rd"
    · refine ⟨x % m, Nat.mod_lt _ (by omega), rfl, m, x % m, ?_, rfl, ?_⟩
      · rw [Int.natCast_emod]
        rfl
      · rw [← hg, Nat.gcd_comm x m, Nat.gcd_rec m x, Nat.gcd_comm]
    · exact hy
  · have hy0 : m = 0 := by omega
    subst hy0
    rw [Nat.gcd_zero_right] at hg
    subst hg
    have g1 := gcd_lt2 (t := t) (b := b) (by omega) hb2
    walk_at "rd"
    refine ite_t (decide_eq_true hb) ?_
    walk_at "rd"
    · refine ⟨by show 2 ≤ sizeLine; decide, fun p hp => k _ _ (Same.new hp) ?_⟩
      have e1 := low_num (t := t) hb
      have e2 := low_den (t := t) hb
      exact RP.at upd_same (by show V.int _ = V.int _; rw [e1]) (by show V.int _ = V.int _; rw [e2])
    · exact div_of g1.2.2 g1.1
    · exact div_of g1.2.2 g1.1
end
end LW
end
section
set_option Elab.async false
set_option linter.all false
set_option maxRecDepth 100000
set_option maxHeartbeats 4000000
set_option exponentiation.threshold 20000
namespace LW
open PySem PySem.Spec PyProof.Rows L2 Wo
local macro_rules | `(tactic| walk_at "lf") => `(tactic| first | assumption | (refine Up.up (by assumption) ?_; walk_at "lf") | (refine RAll.up (by assumption) ?_; walk_at "lf") | (refine Ob2.up (by assumption) ?_; walk_at "lf"))
local macro_rules | `(tactic| walk_at "side") => `(tactic| first | (unfold CMul; omega) | (unfold CDiv; omega) | (unfold CDivN; omega) | (unfold CPow; omega) | (show (0 : Int) < _; omega) | decide)
local macro_rules | `(tactic| walk_at "rd1") => `(tactic| first
  | ((with_reducible refine rd_var (v := ?v) ?h ?_); (case h => rfl))
  | with_reducible refine rd_c ?_
  | with_reducible refine rd_op ?_
  | with_reducible refine rd_I0 ?_
  | with_reducible refine rd_I ?_ ?_
  | with_reducible refine rd_U ?_
  | with_reducible refine rd_eqI ?_
  | with_reducible refine rd_neI ?_
  | with_reducible refine rd_eqS ?_
  | with_reducible refine rd_neS ?_
  | with_reducible refine rd_un ?_
  | with_reducible refine rd_test ?_
  | with_reducible refine rd_tB ?_
  | with_reducible refine rd_exB ?_
  | with_reducible refine rd_cons ?_
  | with_reducible refine rd_nil ?_
  | with_reducible refine rd_call ?_
  | with_reducible refine rd_cb ?_
  | with_reducible refine rd_seq ?_
  | with_reducible refine rd_asg ?_
  | with_reducible refine rd_gname ?_
  | with_reducible refine rd_ret ?_
  | with_reducible refine rd_ifS ?_
  | with_reducible refine rd_next ?_
  | with_reducible refine rd_drop ?_
  | with_reducible refine rd_if ?_
  | with_reducible refine rd_not ?_
  | with_reducible refine rd_and ?_
  | with_reducible refine rd_or ?_
  | with_reducible refine rd_andV ?_
  | with_reducible refine rd_orV ?_
  | with_reducible refine rd_notV ?_
  | with_reducible refine rd_chain ?_
  | with_reducible refine rd_slot ?_
  | with_reducible refine rd_sst ?_
  | with_reducible refine rd_par ?_
  | with_reducible refine rd_ex2 ?_
  | with_reducible refine rd_gcd ?_
  | with_reducible refine rd_prop ?_
  | with_reducible refine rd_sub ?_
  | with_reducible refine rd_lcm ?_ ?_
  | with_reducible refine rd_forL ?_
  | with_reducible refine rd_forT ?_
  | with_reducible refine rd_forR1 ?_
  | with_reducible refine rd_forZ ?_
  | with_reducible refine rd_lcL ?_
  | with_reducible refine rd_lcT ?_
  | with_reducible refine rd_lcR1 ?_
  | with_reducible refine rd_lcR2 ?_
  | with_reducible refine rd_lcZ ?_
  | with_reducible refine rd_lc2TT ?_
  | with_reducible refine rd_abs ?_
  | with_reducible refine rd_int ?_
  | with_reducible refine rd_intB ?_
  | with_reducible refine rd_max2 ?_
  | with_reducible refine rd_min2 ?_
  | with_reducible refine rd_tup ?_
  | with_reducible refine rd_lst ?_
  | with_reducible refine ite_T ?_
  | with_reducible refine ite_n ?_
  | with_reducible refine ite_y ?_
  | with_reducible refine ite_F ?_
  | with_reducible refine rd_retN ?_)
local macro_rules | `(tactic| walk_at "rd") => `(tactic| repeat walk_at "rd1")
local macro_rules | `(tactic| walk_at "sd") => `(tactic| first | exact Or.inl ⟨by decide, by decide⟩ | exact Or.inr ⟨by decide, by decide⟩ | (show (0 : Int) < _; decide +kernel) | exact ⟨by decide, by decide, by decide +kernel⟩ | exact ⟨by decide, by decide +kernel⟩)
section
variable {P : Program} {w : World} {K : PySem.W.Frag} {mg : Str → Option Value} {base : Heap}
section
variable {n : Nat} {α β : Type} {R : Rl α} {S : Rl β}
theorem ei_comap (φ : α → β) (hφ : ∀ a b, φ a = φ b → a = b) (h : ∀ H x a, R H x a → S H x (φ a)) (e : EiC P w K mg base n S) : EiC P w K mg base n R := fun X l =>
  ⟨fun A pins s σ H x y u v a b sb I rx ry h1 h2 => wpAny_mono ((e X l).1 A pins s σ H x y u v (φ a) (φ b) sb I rx ry (h _ _ _ h1) (h _ _ _ h2)) (fun r s' z => ⟨z.1.trans ⟨hφ a b, fun e => by rw [e]⟩, z.2⟩) fun _ _ x => x,
   fun pins s σ H x a b I h1 h2 => hφ a b ((e X l).2 pins s σ H x _ _ I (h _ _ _ h1) (h _ _ _ h2))⟩
end
theorem ei_RQP {n : Nat} : EiC P w K mg base (n + 1) (RQP K) := ei_comap (S := RT K RI) (fun q : Rat => [q.num, (q.den : Int)]) (fun a b h => by
    have h1 := List.cons.inj h
    have h2 := List.cons.inj h1.2
    exact Rat.ext h1.1 (by exact_mod_cast h2.1)) (fun H x a h => pair_list h) (ei_tup ei_int)
theorem rqp_of {H : Hp} {p : Addr} {q : Rat} {a b : Int} (h : H p = some (.tup [.int a, .int b])) (ha : a = q.num) (hb : b = (q.den : Int)) : RQP K H (.ref p) q := by
  subst ha hb
  exact RP.at h rfl rfl
theorem low_of {H : Hp} {Q : VK} {t b : Int} (hb : 0 < b) (hs : b.natAbs < 2 ^ 8999) (k : ∀ v H', Same H H' → RQP K H' v (Rat.divInt t b) → Q v H') : sp_w_low K [.int t, .int b] H Q E0 := ⟨_, _, rfl, t, b, rfl, rfl, hb, hs, k⟩
def sp_w_plus (K : PySem.W.Frag) : Sp := sp2 fun x y H Q _ => ∃ p q : Rat, RQP K H x p ∧ RQP K H y q ∧ Bd 3000 p ∧ Bd 3000 q ∧ ∀ v H', Same H H' → RQP K H' v (p + q) → Q v H'
abbrev n_w_plus : List Str := ["_law_one", "_law_other"]
theorem sc_w_plus : FnScope n_w_plus ["_law_one", "_law_other"] (defScope s_w_plus) := ⟨rfl, rfl, rfl, by decide +kernel, rfl, by decide +kernel, by decide +kernel⟩
theorem cal_w_plus (T : Tx K mg) : Cal P w K mg base 2 "_law_plus" (sp_w_plus K) := by
  refine cal_of (k := 1) T.G_w_plus T.D_w_plus sc_w_plus (fun _ _ _ _ _ _ us hl => match us, hl with | [_, _], _ => rfl) (fun vs H Q E h => ?_) (fun cdv A outer s H vs Q E hr h => ?_)
  · obtain ⟨v0, v1, rfl, _⟩ := h
    rfl
  obtain ⟨v0, v1, rfl, h⟩ := h
  refine ⟨_, pss_one (ps_ret (pc (cal_w_low T) hr (pa_cons (pe_op op_add (pe_op op_mulW (pe_ix (kIxT K) (pv 0) pe_int (fun _ _ => rfl)) (pe_ix (kIxT K) (pv 1) pe_int (fun _ _ => rfl))) (pe_op op_mulW (pe_ix (kIxT K) (pv 1) pe_int (fun _ _ => rfl)) (pe_ix (kIxT K) (pv 0) pe_int (fun _ _ => rfl)))) (pa_cons (pe_op op_mulW (pe_ix (kIxT K) (pv 0) pe_int (fun _ _ => rfl)) (pe_ix (kIxT K) (pv 1) pe_int (fun _ _ => rfl))) pa_nil)))), ?_⟩
  obtain ⟨p, q, hp, hq, bp, bq, k⟩ := h
  walk_at "rd"
  refine rd_fst hp (fun w1 h1 => ?_)
  obtain rfl := h1
  walk_at "rd"
  refine rd_snd hq (fun w1 h1 => ?_)
  obtain rfl := h1
  walk_at "rd"
  · refine rd_fst hq (fun w1 h1 => ?_)
    obtain rfl := h1
    walk_at "rd"
    refine rd_snd hp (fun w1 h1 => ?_)
    obtain rfl := h1
    walk_at "rd"
    · refine rd_snd hp (fun w1 h1 => ?_)
      obtain rfl := h1
      walk_at "rd"
      refine rd_snd hq (fun w1 h1 => ?_)
      obtain rfl := h1
      walk_at "rd"
      · refine low_of (den_gt p q) (Nat.lt_trans (den_mul bp bq) (Nat.pow_lt_pow_right (by decide) (by decide))) fun v H' e hv => k v H' e ?_
        rw [add_eq]
        exact hv
      · exact mul_of (den_lt bp) (den_lt bq)
    · exact mul_of bq.1 (den_lt bp)
  · exact mul_of bp.1 (den_lt bq)
def sp_w_times (K : PySem.W.Frag) : Sp := sp2 fun x y H Q _ => ∃ p q : Rat, RQP K H x p ∧ RQP K H y q ∧ Bd 3000 p ∧ Bd 3000 q ∧ ∀ v H', Same H H' → RQP K H' v (p * q) → Q v H'
abbrev n_w_times : List Str := ["_law_one", "_law_other"]
theorem sc_w_times : FnScope n_w_times ["_law_one", "_law_other"] (defScope s_w_times) := ⟨rfl, rfl, rfl, by decide +kernel, rfl, by decide +kernel, by decide +kernel⟩
theorem cal_w_times (T : Tx K mg) : Cal P w K mg base 2 "_law_times" (sp_w_times K) := by
  refine cal_of (k := 1) T.G_w_times T.D_w_times sc_w_times (fun _ _ _ _ _ _ us hl => match us, hl with | [_, _], _ => rfl) (fun vs H Q E h => ?_) (fun cdv A outer s H vs Q E hr h => ?_)
  · obtain ⟨v0, v1, rfl, _⟩ := h
    rfl
  obtain ⟨v0, v1, rfl, h⟩ := h
  refine ⟨_, pss_one (ps_ret (pc (cal_w_low T) hr (pa_cons (pe_op op_mulW (pe_ix (kIxT K) (pv 0) pe_int (fun _ _ => rfl)) (pe_ix (kIxT K) (pv 1) pe_int (fun _ _ => rfl))) (pa_cons (pe_op op_mulW (pe_ix (kIxT K) (pv 0) pe_int (fun _ _ => rfl)) (pe_ix (kIxT K) (pv 1) pe_int (fun _ _ => rfl))) pa_nil)))), ?_⟩
  obtain ⟨p, q, hp, hq, bp, bq, k⟩ := h
  walk_at "rd"
  refine rd_fst hp (fun w1 h1 => ?_)
  obtain rfl := h1
  walk_at "rd"
  refine rd_fst hq (fun w1 h1 => ?_)
  obtain rfl := h1
  walk_at "rd"
  · refine rd_snd hp (fun w1 h1 => ?_)
    obtain rfl := h1
    walk_at "rd"
    refine rd_snd hq (fun w1 h1 => ?_)
    obtain rfl := h1
    walk_at "rd"
    · refine low_of (den_gt p q) (Nat.lt_trans (den_mul bp bq) (Nat.pow_lt_pow_right (by decide) (by decide))) fun v H' e hv => k v H' e ?_
      rw [mul_eq]
      exact hv
    · exact mul_of (den_lt bp) (den_lt bq)
  · exact mul_of bp.1 bq.1
def sp_w_less (K : PySem.W.Frag) : Sp := sp3 fun x y z H Q _ => ∃ (as bs : List Rat) (f : Rat), RL K (RQP K) H x as ∧ RL K (RQP K) H y bs ∧ RQP K H z f ∧ (∀ q ∈ as, Bd 2000 q) ∧ (∀ q ∈ bs, Bd 200 q) ∧ Bd 200 f ∧
  ∀ v H', Same H H' → RL K (RQP K) H' v ((as.zip bs).map fun q => q.1 + -f * q.2) → Q v H'
abbrev n_w_less : List Str := ["_law_one", "_law_other", "_law_factor", "_law_minus", "_law_a", "_law_b"]
theorem sc_w_less : FnScope n_w_less ["_law_one", "_law_other", "_law_factor"] (defScope s_w_less) := ⟨rfl, rfl, rfl, by decide +kernel, rfl, by decide +kernel, by decide +kernel⟩
theorem cal_w_less (T : Tx K mg) : Cal P w K mg base 3 "_law_less" (sp_w_less K) := by
  refine cal_of (k := 2) T.G_w_less T.D_w_less sc_w_less (fun _ _ _ _ _ _ us hl => match us, hl with | [_, _, _], _ => rfl) (fun vs H Q E h => ?_) (fun cdv A outer s H vs Q E hr h => ?_)
  · obtain ⟨v0, v1, v2, rfl, _⟩ := h
    rfl
  obtain ⟨v0, v1, v2, rfl, h⟩ := h
  refine ⟨_, pss_cons (ps_set (i := 3) sc_w_less.nd rfl (by first | exact Or.inl rfl | exact Or.inr rfl) (pe_tup (pa_cons (pe_op op_sub pe_int (pe_ix (kIxT K) (pv 2) pe_int (fun _ _ => rfl))) (pa_cons (pe_ix (kIxT K) (pv 2) pe_int (fun _ _ => rfl)) pa_nil))))
      (pss_one (ps_ret (pe_lc (own := [("_law_a", 4), ("_law_b", 5)]) (g := gTup K 2 (gCons (gName 4) (gCons (gName 5) gNil))) (tt := tYes) (by rfl) sc_w_less.nd (kZip K (by rfl) T.N_zip (pa_cons (pv 0) (pa_cons (pv 1) pa_nil))) (blkOk_by (own := [("_law_a", 4), ("_law_b", 5)]) (N := n_w_less) (by rfl)) (fun _ _ _ _ _ => kTup K (by rfl) (pgs_cons (pg_name (i := 4) sc_w_less.nd rfl (by first | exact Or.inl rfl | exact Or.inr rfl)) (pgs_cons (pg_name (i := 5) sc_w_less.nd rfl (by first | exact Or.inl rfl | exact Or.inr rfl)) pgs_nil))) (fun _ _ _ _ _ => pts_nil) (fun _ _ _ _ _ => pe_hid (pc (cal_w_plus T) hr (pa_cons (pv 4) (pa_cons (pc (cal_w_times T) hr (pa_cons (pv 3) (pa_cons (pv 5) pa_nil))) pa_nil))))))), ?_⟩
  obtain ⟨as, bs, f, has, hbs, hf, ba, bb, bf, k⟩ := h
  walk_at "rd"
  refine rd_fst hf (fun w1 h1 => ?_)
  obtain rfl := h1
  walk_at "rd"
  refine rd_snd hf (fun w1 h1 => ?_)
  obtain rfl := h1
  walk_at "rd"
  refine ⟨by show 2 ≤ sizeLine; decide, fun p hp => ?_⟩
  have e1 := Same.new (o := .tup [.int (0 - f.num), .int (f.den : Int)]) hp
  have h1 : RQP K (upd H p (.tup [.int (0 - f.num), .int (f.den : Int)])) (.ref p) (-f) := rqp_of upd_same (by rw [neg_num]; omega) (by rw [neg_den])
  generalize upd H p (.tup [.int (0 - f.num), .int (f.den : Int)]) = H1 at *
  walk_at "rd"
  refine lcZ (has.up' e1) (hbs.up' e1) (fun J W hz => ?_)
  refine lcK_pair (S := RQP K) (K := K) W hz (fun q => q.1 + -f * q.2) (fun v H2 e2 r2 => ?_) (fun q G x y hq e2 hx hy Kt hk => ?_)
  · walk_at "rd"
    exact k v H2 (e1.trans e2) r2
  · obtain ⟨m1, m2⟩ := List.of_mem_zip (a := q.1) (b := q.2) hq
    walk_at "rd"
    refine ⟨_, _, rfl, -f, q.2, Up.up e2 h1, hy, bf.neg.mono (by decide), (bb _ m2).mono (by decide), fun v3 H3 e3 h3 => ?_⟩
    walk_at "rd"
    exact ⟨_, _, rfl, q.1, -f * q.2, Up.up e3 hx, h3, (ba _ m1).mono (by decide), (bf.neg.mul (bb _ m2)).mono (by decide), fun v H' e hv => hk v H' (e3.trans e) hv⟩
def sp_w_mixed (K : PySem.W.Frag) : Sp := sp3 fun x y z H Q _ => ∃ (rows : List (List Rat)) (ws : List Rat) (n : Nat), RL K (RL K (RQP K)) H x rows ∧ RL K (RQP K) H y ws ∧ z = .int (n : Nat) ∧ n ≤ 8 ∧ rows.length ≤ 8 ∧ (∀ r ∈ rows, ∀ q ∈ r, Bd 66 q) ∧ (∀ q ∈ ws, Bd 66 q) ∧
  ∀ v H', Same H H' → RL K (RQP K) H' v (vm ws rows n) → Q v H'
abbrev n_w_mixed : List Str := ["_law_rows", "_law_weights", "_law_width", "_law_found", "_law_row", "_law_weight"]
theorem sc_w_mixed : FnScope n_w_mixed ["_law_rows", "_law_weights", "_law_width"] (defScope s_w_mixed) := ⟨rfl, rfl, rfl, by decide +kernel, rfl, by decide +kernel, by decide +kernel⟩
theorem cal_w_mixed (T : Tx K mg) : Cal P w K mg base 4 "_law_mixed" (sp_w_mixed K) := by
  refine cal_of (k := 3) T.G_w_mixed T.D_w_mixed sc_w_mixed (fun _ _ _ _ _ _ us hl => match us, hl with | [_, _, _], _ => rfl) (fun vs H Q E h => ?_) (fun cdv A outer s H vs Q E hr h => ?_)
  · obtain ⟨v0, v1, v2, rfl, _⟩ := h
    rfl
  obtain ⟨v0, v1, v2, rfl, h⟩ := h
  refine ⟨_, pss_cons (ps_set (i := 3) sc_w_mixed.nd rfl (by first | exact Or.inl rfl | exact Or.inr rfl) (pe_op op_rep (pe_lst (pa_cons (pe_tup (pa_cons pe_int (pa_cons pe_int pa_nil))) pa_nil)) (pv 2)))
      (pss_cons (ps_for (passes_of rfl) rfl (kZip K (by rfl) T.N_zip (pa_cons (pv 0) (pa_cons (pv 1) pa_nil))) (kTup K (by rfl) (pgs_cons (pg_name (i := 4) sc_w_mixed.nd rfl (by first | exact Or.inl rfl | exact Or.inr rfl)) (pgs_cons (pg_name (i := 5) sc_w_mixed.nd rfl (by first | exact Or.inl rfl | exact Or.inr rfl)) pgs_nil)))
        (pss_one (ps_set (i := 3) sc_w_mixed.nd rfl (by first | exact Or.inl rfl | exact Or.inr rfl) (pc (cal_w_less T) hr (pa_cons (pv 3) (pa_cons (pv 4) (pa_cons (pe_tup (pa_cons (pe_op op_sub pe_int (pe_ix (kIxT K) (pv 5) pe_int (fun _ _ => rfl))) (pa_cons (pe_ix (kIxT K) (pv 5) pe_int (fun _ _ => rfl)) pa_nil))) pa_nil)))))))
      (pss_one (ps_ret (pv 3)))), ?_⟩
  obtain ⟨rows, ws, n, hrows, hws, rfl, hn, hl, hb, hbw, k⟩ := h
  walk_at "rd"
  refine ⟨by show 2 ≤ sizeLine; decide, fun p hp => ?_⟩
  have e1 := Same.new (o := .tup [V.int 0, V.int 1]) hp
  have h1 : RQP K (upd H p (.tup [V.int 0, V.int 1])) (.ref p) 0 := rqp_of upd_same rfl rfl
  generalize upd H p (.tup [V.int 0, V.int 1]) = H1 at *
  walk_at "rd"
  refine ⟨by show 1 ≤ sizeLine; decide, fun p2 hp2 => ?_⟩
  have e2 := Same.new (o := .lst [V.ref p]) hp2
  have h2 : upd H1 p2 (.lst [V.ref p]) p2 = some (.lst [V.ref p]) := upd_same
  generalize upd H1 p2 (.lst [V.ref p]) = H2 at *
  walk_at "rd"
  refine rd_rep h2 (by omega) (fun q H3 e3 h3 => ?_)
  have hf0 : RL K (RQP K) H3 (.ref q) (List.replicate n 0) := RL.repl h3 (Up.up (e2.trans e3) h1) (by omega)
  have e03 := (e1.trans e2).trans e3
  walk_at "rd"
  refine forZ (hrows.up' e03) (hws.up' e03) (fun J W hz => ?_)
  refine forK W (fun i σ' H' => (∃ vf o4 o5, σ' = [some v0, some v1, some (.int (n : Nat)), some vf, o4, o5] ∧
      RL K (RQP K) H' vf (((rows.zip ws).take i).foldl (fun f p => (f.zip p.1).map fun q => q.1 + -(-p.2) * q.2) (List.replicate n 0)) ∧
      (∀ q ∈ ((rows.zip ws).take i).foldl (fun f p => (f.zip p.1).map fun q => q.1 + -(-p.2) * q.2) (List.replicate n 0), Bd (1 + 133 * i) q)) ∧ Same H3 H') ⟨⟨_, _, _, rfl, hf0, fun q hq => by rw [List.eq_of_mem_replicate hq]; exact Bd.zero⟩, Same.refl _⟩ (fun _ _ _ h => h.2) (fun i σ' H' p x H'' ha hI e e' hx => ?_) (fun σ' H' hI => ?_)
  · obtain ⟨⟨vf, o4, o5, rfl, hf, bf⟩, _⟩ := hI
    obtain ⟨r, w'⟩ := p
    obtain ⟨m1, m2⟩ := List.of_mem_zip (List.mem_of_getElem? ha)
    have hi : i < 8 := by
      have := (List.getElem?_eq_some_iff.mp ha).1
      rw [List.length_zip] at this
      omega
    refine rd_gpair hx (fun y z hy hz => ?_)
    walk_at "rd"
    refine rd_fst hz (fun w1 h1 => ?_)
    obtain rfl := h1
    walk_at "rd"
    refine rd_snd hz (fun w1 h1 => ?_)
    obtain rfl := h1
    walk_at "rd"
    refine ⟨by show 2 ≤ sizeLine; decide, fun p hp => ?_⟩
    have e4 := Same.new (o := .tup [.int (0 - w'.num), .int (w'.den : Int)]) hp
    have h4 : RQP K (upd H'' p (.tup [.int (0 - w'.num), .int (w'.den : Int)])) (.ref p) (-w') := rqp_of upd_same (by rw [neg_num]; omega) (by rw [neg_den])
    generalize upd H'' p (.tup [.int (0 - w'.num), .int (w'.den : Int)]) = H4 at *
    walk_at "rd"
    refine ⟨_, _, _, rfl, _, r, -w', hf.up' (e.trans e4), hy.up' e4, h4, fun q hq => (bf q hq).mono (by omega), fun q hq => (hb r m1 q hq).mono (by decide), (hbw w' m2).neg.mono (by decide), fun v H5 e5 hv => ?_⟩
    walk_at "rd"
    refine ⟨⟨v, _, _, rfl, ?_, ?_⟩, (e'.trans e4).trans e5⟩
    · rw [List.take_succ, ha, List.foldl_append]
      exact hv
    · rw [List.take_succ, ha, List.foldl_append]
      intro q hq
      obtain ⟨s, hs, rfl⟩ := List.mem_map.mp (show q ∈ List.map (fun q : Rat × Rat => q.1 + -(-w') * q.2) (List.zip _ r) from hq)
      obtain ⟨s1, s2⟩ := List.of_mem_zip (a := s.1) (b := s.2) hs
      exact ((bf _ s1).add ((hbw w' m2).neg.neg.mul (hb r m1 _ s2))).mono (by omega)
  · obtain ⟨⟨vf, o4, o5, rfl, hf, _⟩, e4⟩ := hI
    rw [List.take_of_length_le (Nat.le_refl _), mix_eq] at hf
    walk_at "rd"
    exact k _ _ (e03.trans e4) hf
def sp_w_ratios (K : PySem.W.Frag) : Sp := sp1 fun x H Q _ => ∃ row : List Rat, RL K (RQP K) H x row ∧ (∀ q ∈ row, Sm q) ∧ ∀ v H', Same H H' → RRow K H' v row → Q v H'
abbrev n_w_ratios : List Str := ["_law_row", "_law_one"]
theorem sc_w_ratios : FnScope n_w_ratios ["_law_row"] (defScope s_w_ratios) := ⟨rfl, rfl, rfl, by decide +kernel, rfl, by decide +kernel, by decide +kernel⟩
theorem cal_w_ratios (T : Tx K mg) : Cal P w K mg base 7 "_law_ratios" (sp_w_ratios K) := by
  refine cal_of (k := 6) T.G_w_ratios T.D_w_ratios sc_w_ratios (fun _ _ _ _ _ _ us hl => match us, hl with | [_], _ => rfl) (fun vs H Q E h => ?_) (fun cdv A outer s H vs Q E hr h => ?_)
  · obtain ⟨v0, rfl, _⟩ := h
    rfl
  obtain ⟨v0, rfl, h⟩ := h
  refine ⟨_, pss_one (ps_ret (pe_callTy (kTuple K) (by rfl) T.N_tuple (by decide +kernel) (pa_cons (pe_lc (own := [("_law_one", 1)]) (g := gName 1) (tt := tYes) (by rfl) sc_w_ratios.nd (kPiL K (pv 0)) (blkOk_by (own := [("_law_one", 1)]) (N := n_w_ratios) (by rfl)) (fun _ _ _ _ _ => pg_name (i := 1) sc_w_ratios.nd rfl (by first | exact Or.inl rfl | exact Or.inr rfl)) (fun _ _ _ _ _ => pts_nil) (fun _ _ _ _ _ => pe_hid (pm (ctor_Ratio T) hr (pa_cons (pe_ix (kIxT K) (pv 1) pe_int (fun _ _ => rfl)) (pa_cons (pe_ix (kIxT K) (pv 1) pe_int (fun _ _ => rfl)) pa_nil))))) pa_nil))), ?_⟩
  obtain ⟨row, hrow, hs, k⟩ := h
  walk_at "rd"
  refine lcL hrow (fun J W hz => ?_)
  refine lcK_name (S := RR K) (K := K) W hz (fun q => q) (fun v H2 e2 r2 => ?_) (fun q G x hq e2 hx Kt hk => ?_)
  · walk_at "rd"
    rw [List.map_id'] at r2
    exact rd_tupleL r2 fun v H3 e3 r3 => k v H3 (e2.trans e3) r3
  · have hq2 := hs q hq
    unfold Sm at hq2
    have hd := q.den_pos
    walk_at "rd"
    refine rd_fst hx (fun w1 h1 => ?_)
    obtain rfl := h1
    walk_at "rd"
    refine rd_snd hx (fun w1 h1 => ?_)
    obtain rfl := h1
    walk_at "rd"
    exact ⟨_, _, q, .inl rfl, .inr ⟨_, _, rfl, rfl, by omega, by omega, by omega, (Rat.num_divInt_den q).symm⟩, fun v H' e hv => hk v H' e hv⟩
def sp_w_told (K : PySem.W.Frag) : Sp := sp1 fun x H Q _ => ∃ rows : List (List Rat), RL K (RL K (RQP K)) H x rows ∧ (∀ r ∈ rows, ∀ q ∈ r, Sm q) ∧ ∀ v H', Same H H' → RMat K H' v rows → Q v H'
abbrev n_w_told : List Str := ["_law_rows", "_law_row"]
theorem sc_w_told : FnScope n_w_told ["_law_rows"] (defScope s_w_told) := ⟨rfl, rfl, rfl, by decide +kernel, rfl, by decide +kernel, by decide +kernel⟩
theorem cal_w_told (T : Tx K mg) : Cal P w K mg base 8 "_law_told" (sp_w_told K) := by
  refine cal_of (k := 7) T.G_w_told T.D_w_told sc_w_told (fun _ _ _ _ _ _ us hl => match us, hl with | [_], _ => rfl) (fun vs H Q E h => ?_) (fun cdv A outer s H vs Q E hr h => ?_)
  · obtain ⟨v0, rfl, _⟩ := h
    rfl
  obtain ⟨v0, rfl, h⟩ := h
  refine ⟨_, pss_one (ps_ret (pe_callTy (kTuple K) (by rfl) T.N_tuple (by decide +kernel) (pa_cons (pe_lc (own := [("_law_row", 1)]) (g := gName 1) (tt := tYes) (by rfl) sc_w_told.nd (kPiL K (pv 0)) (blkOk_by (own := [("_law_row", 1)]) (N := n_w_told) (by rfl)) (fun _ _ _ _ _ => pg_name (i := 1) sc_w_told.nd rfl (by first | exact Or.inl rfl | exact Or.inr rfl)) (fun _ _ _ _ _ => pts_nil) (fun _ _ _ _ _ => pe_hid (pc (cal_w_ratios T) hr (pa_cons (pv 1) pa_nil)))) pa_nil))), ?_⟩
  obtain ⟨rows, hrows, hs, k⟩ := h
  walk_at "rd"
  refine lcL hrows (fun J W hz => ?_)
  refine lcK_name (S := RRow K) (K := K) W hz (fun q => q) (fun v H2 e2 r2 => ?_) (fun r G x hr e2 hx Kt hk => ?_)
  · walk_at "rd"
    rw [List.map_id'] at r2
    exact rd_tupleL r2 fun v H3 e3 r3 => k v H3 (e2.trans e3) r3
  · walk_at "rd"
    exact ⟨_, rfl, r, hx, hs r hr, fun v H' e hv => hk v H' e hv⟩
def sp_w_lot (K : PySem.W.Frag) : Sp := sp3 fun x y z H Q _ => ∃ (u : Addr) (m n : Nat), x = .ref u ∧ H u = some (UrnO u Pw) ∧ y = .int (m : Nat) ∧ z = .int (n : Nat) ∧ m ≤ 8 ∧ n ≤ 8 ∧ ∀ v H' rows, Same H H' → Ltb 3 m n rows → RL K (RL K (RQP K)) H' v rows → Q v H'
abbrev n_w_lot : List Str := ["_law_well_here", "_law_many", "_law_width", "_law_one", "_law_turn"]
theorem sc_w_lot : FnScope n_w_lot ["_law_well_here", "_law_many", "_law_width"] (defScope s_w_lot) := ⟨rfl, rfl, rfl, by decide +kernel, rfl, by decide +kernel, by decide +kernel⟩
theorem cal_w_lot (T : Tx K mg) : Cal P w K mg base 2 "_law_lot" (sp_w_lot K) := by
  refine cal_of (k := 1) T.G_w_lot T.D_w_lot sc_w_lot (fun _ _ _ _ _ _ us hl => match us, hl with | [_, _, _], _ => rfl) (fun vs H Q E h => ?_) (fun cdv A outer s H vs Q E hr h => ?_)
  · obtain ⟨v0, v1, v2, rfl, _⟩ := h
    rfl
  obtain ⟨v0, v1, v2, rfl, h⟩ := h
  refine ⟨_, pss_one (ps_ret (pe_lc (own := [("_law_one", 3)]) (g := gName 3) (tt := tYes) (by rfl) sc_w_lot.nd (pi_range1 rfl T.N_range (pa_cons (pv 1) pa_nil)) (blkOk_by (own := [("_law_one", 3)]) (N := n_w_lot) (by rfl)) (fun _ _ _ _ _ => pg_name (i := 3) sc_w_lot.nd rfl (by first | exact Or.inl rfl | exact Or.inr rfl)) (fun _ _ _ _ _ => pts_nil) (fun _ _ _ _ _ => pe_hid (pe_lc (own := [("_law_turn", 4)]) (g := gName 4) (tt := tYes) (by rfl) sc_w_lot.nd (pi_range1 rfl T.N_range (pa_cons (pv 2) pa_nil)) (blkOk_by (own := [("_law_turn", 4)]) (N := n_w_lot) (by rfl)) (fun _ _ _ _ _ => pg_name (i := 4) sc_w_lot.nd rfl (by first | exact Or.inl rfl | exact Or.inr rfl)) (fun _ _ _ _ _ => pts_nil) (fun _ _ _ _ _ => pe_hid (pc (cal_w_low T) hr (pa_cons (pe_op op_sub (pc (cal_dip T) hr (pa_cons (pv 0) (pa_cons pe_int pa_nil))) pe_int) (pa_cons (pe_op op_add pe_int (pc (cal_dip T) hr (pa_cons (pv 0) (pa_cons pe_int pa_nil)))) pa_nil)))))))), ?_⟩
  obtain ⟨u, m, n, rfl, hu, rfl, rfl, hm, hn, k⟩ := h
  walk_at "rd"
  refine lcR1 (j := (m : Nat)) (by omega) (fun J W hz => ?_) (by omega)
  rw [Int.toNat_natCast] at W hz
  refine lcK_rel (S := RL K (RQP K)) (K := K) W hz (fun r : List Rat => r.length = n ∧ ∀ q ∈ r, Bd 3 q) (fun v H2 rows e2 hl hP r2 => ?_) (fun i G x hq e2 hx Kt hk => ?_)
  · exact k v H2 rows e2 ⟨by rw [hl, rgI_len], fun r hr => (hP r hr).1, fun r hr => (hP r hr).2⟩ r2
  · walk_at "rd"
    refine lcR1 (j := (n : Nat)) (by omega) (fun J W hz => ?_) (by omega)
    rw [Int.toNat_natCast] at W hz
    refine lcK_rel (S := RQP K) (K := K) W hz (Bd 3) (fun v H3 row e3 hl hP r3 => ?_) (fun i G2 x hq e3 hx Kt2 hk2 => ?_)
    · exact hk v H3 row e3 r3 ⟨by rw [hl, rgI_len], hP⟩
    · have hu2 := (e2.trans e3) _ _ hu
      walk_at "rd"
      refine ⟨u, 9, rfl, hu2, rfl, by decide, by decide, fun a H4 a0 a1 e4 => ?_⟩
      walk_at "rd"
      refine ⟨u, 3, rfl, e4 _ _ hu2, rfl, by decide, by decide, fun b H5 b0 b1 e5 => ?_⟩
      walk_at "rd"
      exact low_of (by omega) (Nat.lt_of_lt_of_le (by omega : (1 + b).natAbs < 2 ^ 3) (Nat.pow_le_pow_right (by decide) (by decide))) fun v H' e hv => hk2 v H' _ ((e4.trans e5).trans e) hv (low_bd (by omega) (by omega) (by omega))
def sp_w_turned (K : PySem.W.Frag) : Sp := sp2 fun x y H Q _ => ∃ (rows : List (List Rat)) (n : Nat), RL K (RL K (RQP K)) H x rows ∧ y = .int (n : Nat) ∧ n ≤ 8 ∧ (∀ r ∈ rows, r.length = n) ∧ ∀ v H', Same H H' → RL K (RL K (RQP K)) H' v (ltr rows n) → Q v H'
abbrev n_w_turned : List Str := ["_law_rows", "_law_width", "_law_at", "_law_row"]
theorem sc_w_turned : FnScope n_w_turned ["_law_rows", "_law_width"] (defScope s_w_turned) := ⟨rfl, rfl, rfl, by decide +kernel, rfl, by decide +kernel, by decide +kernel⟩
theorem cal_w_turned (T : Tx K mg) : Cal P w K mg base 10 "_law_turned" (sp_w_turned K) := by
  refine cal_of (k := 9) T.G_w_turned T.D_w_turned sc_w_turned (fun _ _ _ _ _ _ us hl => match us, hl with | [_, _], _ => rfl) (fun vs H Q E h => ?_) (fun cdv A outer s H vs Q E hr h => ?_)
  · obtain ⟨v0, v1, rfl, _⟩ := h
    rfl
  obtain ⟨v0, v1, rfl, h⟩ := h
  refine ⟨_, pss_one (ps_ret (pe_ifExp (pt_cmpR (neX P w K mg base hr) (pv 0) (pe_lst pa_nil) (nomark _)) (pe_lc (own := [("_law_at", 2)]) (g := gName 2) (tt := tYes) (by rfl) sc_w_turned.nd (pi_range1 rfl T.N_range (pa_cons (pv 1) pa_nil)) (blkOk_by (own := [("_law_at", 2)]) (N := n_w_turned) (by rfl)) (fun _ _ _ _ _ => pg_name (i := 2) sc_w_turned.nd rfl (by first | exact Or.inl rfl | exact Or.inr rfl)) (fun _ _ _ _ _ => pts_nil) (fun _ _ _ _ _ => pe_hid (pe_lc (own := [("_law_row", 3)]) (g := gName 3) (tt := tYes) (by rfl) sc_w_turned.nd (kPiL K (pv 0)) (blkOk_by (own := [("_law_row", 3)]) (N := n_w_turned) (by rfl)) (fun _ _ _ _ _ => pg_name (i := 3) sc_w_turned.nd rfl (by first | exact Or.inl rfl | exact Or.inr rfl)) (fun _ _ _ _ _ => pts_nil) (fun _ _ _ _ _ => pe_hid (pe_ix (kIxL K) (pv 3) (pv 2) (fun _ _ => rfl)))))) (pe_lst pa_nil))), ?_⟩
  obtain ⟨rows, n, hrows, rfl, hn, hw, k⟩ := h
  walk_at "rd"
  refine ⟨by show 0 ≤ sizeLine; decide, fun p hp => ?_⟩
  have e1 := Same.new (o := .lst []) hp
  have h1 : RL K (RL K (RQP K)) (upd H p (.lst [])) (.ref p) [] := RL.at upd_same .nil (by show 0 ≤ sizeLine; decide)
  generalize upd H p (.lst []) = H1 at *
  refine rd_neX (nc_lst (ei_lst ei_RQP)) (hrows.up' e1) h1 (fun H2 e2 => ?_)
  walk_at "rd"
  unfold ltr at k
  refine ite_ndec (fun hne => ?_) (fun hne => ?_)
  · rw [if_neg hne] at k
    refine rd_lcR1 ?_
    walk_at "rd"
    refine lcR1 (j := (n : Nat)) (by omega) (fun J W hz => ?_) (by omega)
    rw [Int.toNat_natCast] at W hz
    refine lcK_name (S := RL K (RQP K)) (K := K) W hz (fun i => rows.map fun r => r.getD i.toNat 0) (fun v H3 e3 r => ?_) (fun i G x hq e3 r Kt hk => ?_)
    · walk_at "rd"
      exact k v H3 ((e1.trans e2).trans e3) r
    · obtain rfl := r
      have hi := rgI_mem.mp hq
      walk_at "rd"
      refine lcL (hrows.up' ((e1.trans e2).trans e3)) (fun J W hz => ?_)
      refine lcK_name (S := RQP K) (K := K) W hz (fun r => r.getD i.toNat 0) (fun v H4 e4 r4 => ?_) (fun r G2 x hr e4 hx Kt2 hk2 => ?_)
      · exact hk v H4 e4 r4
      · walk_at "rd"
        have hlt : i.toNat < r.length := by rw [hw r hr]; omega
        refine rd_ixL (n := i.toNat) (a := r.getD i.toNat 0) hx (by rw [List.getD_eq_getElem?_getD, List.getElem?_eq_getElem hlt]; rfl) (fun w' hw => hk2 _ _ (Same.refl _) hw) (by omega)
  · rw [if_pos hne] at k
    walk_at "rd"
    exact ⟨by show 0 ≤ sizeLine; decide, fun p hp => k _ _ ((e1.trans e2).trans (Same.new hp)) (RL.at upd_same .nil (by show 0 ≤ sizeLine; decide))⟩
end
end LW
end
section
set_option Elab.async false
set_option linter.all false
set_option maxRecDepth 100000
set_option maxHeartbeats 4000000
set_option exponentiation.threshold 20000
namespace LW
open PySem PySem.Spec PyProof.Rows L2 Wo
local macro_rules | `(tactic| walk_at "lf") => `(tactic| first | assumption | (refine Up.up (by assumption) ?_; walk_at "lf") | (refine RAll.up (by assumption) ?_; walk_at "lf") | (refine Ob2.up (by assumption) ?_; walk_at "lf"))
local macro_rules | `(tactic| walk_at "side") => `(tactic| first | (unfold CMul; omega) | (unfold CDiv; omega) | (unfold CDivN; omega) | (unfold CPow; omega) | (show (0 : Int) < _; omega) | decide)
local macro_rules | `(tactic| walk_at "rd1") => `(tactic| first
  | ((with_reducible refine rd_var (v := ?v) ?h ?_); (case h => rfl))
  | with_reducible refine rd_c ?_
  | with_reducible refine rd_op ?_
  | with_reducible refine rd_I0 ?_
  | with_reducible refine rd_I ?_ ?_
  | with_reducible refine rd_U ?_
  | with_reducible refine rd_eqI ?_
  | with_reducible refine rd_neI ?_
  | with_reducible refine rd_eqS ?_
  | with_reducible refine rd_neS ?_
  | with_reducible refine rd_un ?_
  | with_reducible refine rd_test ?_
  | with_reducible refine rd_tB ?_
  | with_reducible refine rd_exB ?_
  | with_reducible refine rd_cons ?_
  | with_reducible refine rd_nil ?_
  | with_reducible refine rd_call ?_
  | with_reducible refine rd_cb ?_
  | with_reducible refine rd_seq ?_
  | with_reducible refine rd_asg ?_
  | with_reducible refine rd_gname ?_
  | with_reducible refine rd_ret ?_
  | with_reducible refine rd_ifS ?_
  | with_reducible refine rd_next ?_
  | with_reducible refine rd_drop ?_
  | with_reducible refine rd_if ?_
  | with_reducible refine rd_not ?_
  | with_reducible refine rd_and ?_
  | with_reducible refine rd_or ?_
  | with_reducible refine rd_andV ?_
  | with_reducible refine rd_orV ?_
  | with_reducible refine rd_notV ?_
  | with_reducible refine rd_chain ?_
  | with_reducible refine rd_slot ?_
  | with_reducible refine rd_sst ?_
  | with_reducible refine rd_par ?_
  | with_reducible refine rd_ex2 ?_
  | with_reducible refine rd_gcd ?_
  | with_reducible refine rd_prop ?_
  | with_reducible refine rd_sub ?_
  | with_reducible refine rd_lcm ?_ ?_
  | with_reducible refine rd_forL ?_
  | with_reducible refine rd_forT ?_
  | with_reducible refine rd_forR1 ?_
  | with_reducible refine rd_forZ ?_
  | with_reducible refine rd_lcL ?_
  | with_reducible refine rd_lcT ?_
  | with_reducible refine rd_lcR1 ?_
  | with_reducible refine rd_lcR2 ?_
  | with_reducible refine rd_lcZ ?_
  | with_reducible refine rd_lc2TT ?_
  | with_reducible refine rd_abs ?_
  | with_reducible refine rd_int ?_
  | with_reducible refine rd_intB ?_
  | with_reducible refine rd_max2 ?_
  | with_reducible refine rd_min2 ?_
  | with_reducible refine rd_tup ?_
  | with_reducible refine rd_lst ?_
  | with_reducible refine ite_T ?_
  | with_reducible refine ite_n ?_
  | with_reducible refine ite_y ?_
  | with_reducible refine ite_F ?_
  | with_reducible refine rd_retN ?_)
local macro_rules | `(tactic| walk_at "rd") => `(tactic| repeat walk_at "rd1")
local macro_rules | `(tactic| walk_at "sd") => `(tactic| first | exact Or.inl ⟨by decide, by decide⟩ | exact Or.inr ⟨by decide, by decide⟩ | (show (0 : Int) < _; decide +kernel) | exact ⟨by decide, by decide, by decide +kernel⟩ | exact ⟨by decide, by decide +kernel⟩)
section
variable {P : Program} {w : World} {K : PySem.W.Frag} {mg : Str → Option Value} {base : Heap}
theorem rd_par3 {σ : L2.St} {H : Hp} {D : Ends} {ts : TA} {i j l : Nat} (q : ts σ H fun vs H1 => ∃ u v w, vs = [u, v, w] ∧ D.nx (((σ.set i (some u)).set j (some v)).set l (some w)) H1) : tPar3 i j l ts D σ H := q
theorem rd_ex3 {P : V → V → V → Prop} {x y z : V} (q : P x y z) : ∃ u v w, [x, y, z] = [u, v, w] ∧ P u v w := ⟨x, y, z, rfl, q⟩
theorem rd_gtup4 {i j l m : Nat} {σ : L2.St} {H : Hp} {P : L2.St → Hp → Prop} {p : Addr} {x y z u : V} (h : H p = some (.tup [x, y, z, u])) (k : P ((((σ.set i (some x)).set j (some y)).set l (some z)).set m (some u)) H) :
    gTup K 4 (gCons (gName i) (gCons (gName j) (gCons (gName l) (gCons (gName m) gNil)))) (.ref p) σ H P :=
  ⟨p, [x, y, z, u], rfl, .inl (.inl h), rfl, x, _, rfl, y, _, rfl, z, _, rfl, u, _, rfl, rfl, k⟩
theorem rd_gtup3 {i j l : Nat} {σ : L2.St} {H : Hp} {P : L2.St → Hp → Prop} {p : Addr} {x y z : V} (h : H p = some (.tup [x, y, z])) (k : P (((σ.set i (some x)).set j (some y)).set l (some z)) H) :
    gTup K 3 (gCons (gName i) (gCons (gName j) (gCons (gName l) gNil))) (.ref p) σ H P :=
  ⟨p, [x, y, z], rfl, .inl (.inl h), rfl, x, _, rfl, y, _, rfl, z, _, rfl, rfl, k⟩
theorem rd_keep {σ : L2.St} {H : Hp} {Q : VK} {A : List (List Rat)} {a b : Nat} {v : V} (hv : RMat K H v A) (hA : Ltb 3 a b A) (h2 : σ[2]? = some (some (.int (a : Nat)))) (h3 : σ[3]? = some (some (.int (b : Nat)))) (h9 : σ[9]? = some (some v))
    (k : ∀ v H', Same H H' → RMat K H' v (tr (tr A)) → Q v H') :
    tIf (tAnd (tTest (tOp (rI0 fun i j => .bl (decide (j < i))) (tVar 2) (tC (.int 0)))) (tTest (tOp (rI0 fun i j => .bl (decide (j < i))) (tVar 3) (tC (.int 0))))) (tVar 9) (tTup tNil) σ H Q := by
  have no : (a = 0 ∨ b = 0) → ∀ p, H p = none → Q (.ref p) (upd H p (.tup [])) := fun h p hp => k _ _ (Same.new hp) (by rw [tr_tr0 hA h]; exact RT.emp upd_same)
  refine ⟨_, h2, _, _, rfl, rfl, _, rfl, ?_⟩
  refine ite_dec (fun ha => ?_) (fun ha => ?_)
  · refine ⟨_, h3, _, _, rfl, rfl, _, rfl, ?_⟩
    refine ite_dec (fun hb => ?_) (fun hb => ?_)
    · exact ⟨_, h9, k _ _ (Same.refl _) (by rw [tr_tr hA (by omega) (by omega)]; exact hv)⟩
    · exact ⟨by show 0 ≤ sizeLine; decide, no (.inr (by omega))⟩
  · exact ite_F ⟨by show 0 ≤ sizeLine; decide, no (.inl (by omega))⟩
/-- multiplied, turned as asked by the law -/
theorem mul_of2 {H : Hp} {Q : VK} {x y : V} {A B : List (List Rat)} {k l a b c : Nat} (h1 : RMat K H x A) (h2 : RMat K H y B) (hA : Ltb k a b A) (hB : Ltb l b c B) (ha : a ≤ 8) (hb : b ≤ 8) (hc : c ≤ 8) (hk : k ≤ 66) (hl : l ≤ 66) (q : ∀ v H', Same H H' → RMat K H' v (mm A B) → Q v H') : sp_multiplied K [x, y] H Q E0 := by
  refine ⟨_, _, rfl, A, B, h1, h2, hA.few ha hb, hB.few hb hc, hA.sm hk, hB.sm hl, ?_, q⟩
  rcases Nat.eq_zero_or_pos a with h0 | h0
  · exact .inl (List.eq_nil_of_length_eq_zero (by rw [hA.1]; exact h0))
  · exact .inr (by rw [hA.wd h0, hB.1])
theorem tur_of {H : Hp} {Q : VK} {x : V} {A : List (List Rat)} {k a b : Nat} (h1 : RMat K H x A) (hA : Ltb k a b A) (ha : a ≤ 8) (hb : b ≤ 8) (hk : k ≤ 66) (q : ∀ v H', Same H H' → RMat K H' v (tr A) → Q v H') : sp_turned K [x] H Q E0 :=
  ⟨_, rfl, A, h1, hA.few ha hb, hA.sm hk, q⟩
def sp_w_right (K : PySem.W.Frag) : Sp := sp1 fun x H Q _ => ∃ u : Addr, x = .ref u ∧ H u = some (UrnO u Pw) ∧ ∀ H', Same H H' → Q (.bl true) H'
abbrev n_w_right : List Str := ["_law_well_here", "_law_both", "_law_a", "_law_b", "_law_c", "_law_d", "_law_first", "_law_second", "_law_third", "_law_one", "_law_two", "_law_three", "_law_row"]
theorem sc_w_right : FnScope n_w_right ["_law_well_here"] (defScope s_w_right) := ⟨rfl, rfl, rfl, by decide +kernel, rfl, by decide +kernel, by decide +kernel⟩
theorem cal_w_right (T : Tx K mg) : Cal P w K mg base 11 "_law_right" (sp_w_right K) := by
  refine cal_of (k := 10) T.G_w_right T.D_w_right sc_w_right (fun _ _ _ _ _ _ us hl => match us, hl with | [_], _ => rfl) (fun vs H Q E h => ?_) (fun cdv A outer s H vs Q E hr h => ?_)
  · obtain ⟨v0, rfl, _⟩ := h
    rfl
  obtain ⟨v0, rfl, h⟩ := h
  refine ⟨_, pss_cons (ps_asg (pe_tup (pa_cons (pc (cal_dip T) hr (pa_cons (pv 0) (pa_cons pe_int pa_nil))) (pa_cons (pc (cal_dip T) hr (pa_cons (pv 0) (pa_cons pe_int pa_nil))) (pa_cons (pe_op op_add pe_int (pc (cal_dip T) hr (pa_cons (pv 0) (pa_cons pe_int pa_nil)))) (pa_cons (pc (cal_dip T) hr (pa_cons (pv 0) (pa_cons pe_int pa_nil))) pa_nil))))) (kTup K (by rfl) (pgs_cons (pg_name (i := 2) sc_w_right.nd rfl (by first | exact Or.inl rfl | exact Or.inr rfl)) (pgs_cons (pg_name (i := 3) sc_w_right.nd rfl (by first | exact Or.inl rfl | exact Or.inr rfl)) (pgs_cons (pg_name (i := 4) sc_w_right.nd rfl (by first | exact Or.inl rfl | exact Or.inr rfl)) (pgs_cons (pg_name (i := 5) sc_w_right.nd rfl (by first | exact Or.inl rfl | exact Or.inr rfl)) pgs_nil))))))
      (pss_cons (ps_asg (pe_tup (pa_cons (pc (cal_w_lot T) hr (pa_cons (pv 0) (pa_cons (pv 2) (pa_cons (pv 3) pa_nil)))) (pa_cons (pc (cal_w_lot T) hr (pa_cons (pv 0) (pa_cons (pv 3) (pa_cons (pv 4) pa_nil)))) (pa_cons (pc (cal_w_lot T) hr (pa_cons (pv 0) (pa_cons (pv 4) (pa_cons (pv 5) pa_nil)))) pa_nil)))) (kTup K (by rfl) (pgs_cons (pg_name (i := 6) sc_w_right.nd rfl (by first | exact Or.inl rfl | exact Or.inr rfl)) (pgs_cons (pg_name (i := 7) sc_w_right.nd rfl (by first | exact Or.inl rfl | exact Or.inr rfl)) (pgs_cons (pg_name (i := 8) sc_w_right.nd rfl (by first | exact Or.inl rfl | exact Or.inr rfl)) pgs_nil)))))
      (pss_cons (ps_par3 (i := 9) (j := 10) (l := 11) (by rfl) sc_w_right.nd rfl rfl rfl (by decide) (by decide) (by decide) rfl rfl rfl (pa_cons (pc (cal_w_told T) hr (pa_cons (pv 6) pa_nil)) (pa_cons (pc (cal_w_told T) hr (pa_cons (pv 7) pa_nil)) (pa_cons (pc (cal_w_told T) hr (pa_cons (pv 8) pa_nil)) pa_nil))) (by rfl))
      (pss_cons (ps_if (pt_cmpR (neX P w K mg base hr) (pc (cal_turned T) hr (pa_cons (pv 9) pa_nil)) (pc (cal_w_told T) hr (pa_cons (pc (cal_w_turned T) hr (pa_cons (pv 6) (pa_cons (pv 3) pa_nil))) pa_nil)) (nomark _))
        (pss_one (ps_ret pe_bl))
        (pss_nil))
      (pss_cons (ps_if (pt_cmpR (neX P w K mg base hr) (pc (cal_turned T) hr (pa_cons (pc (cal_turned T) hr (pa_cons (pv 9) pa_nil)) pa_nil)) (pe_ifExp (PW.pt (pw_and (pt_cmpR op_gt (pv 2) pe_int (nomark _)) (pw_and1 (pt_cmpR op_gt (pv 3) pe_int (nomark _))))) (pv 9) (pe_tup pa_nil)) (nomark _))
        (pss_one (ps_ret pe_bl))
        (pss_nil))
      (pss_cons (ps_setLc (i := 1) (own := [("_law_row", 12)]) (g := gName 12) (tt := tYes) (by rfl) sc_w_right.nd rfl rfl (sw_true rfl rfl rfl (by decide +kernel)) (kPiL K (pv 6)) (blkOk_by (own := [("_law_row", 12)]) (N := n_w_right) (by rfl)) (fun _ _ _ _ _ => pg_name (i := 12) sc_w_right.nd rfl (by first | exact Or.inl rfl | exact Or.inr rfl)) (fun _ _ _ _ _ => pts_nil) (fun _ _ _ _ _ => pe_hid (pc (cal_w_mixed T) hr (pa_cons (pv 7) (pa_cons (pv 12) (pa_cons (pe_ifExp (pt_cmpR op_gt (pv 3) pe_int (nomark _)) (pv 4) pe_int) pa_nil))))))
      (pss_cons (ps_if (pt_cmpR (neX P w K mg base hr) (pc (cal_multiplied T) hr (pa_cons (pv 9) (pa_cons (pv 10) pa_nil))) (pc (cal_w_told T) hr (pa_cons (pv 1) pa_nil)) (nomark _))
        (pss_one (ps_ret pe_bl))
        (pss_nil))
      (pss_cons (ps_if (pt_cmpR op_eq (pv 3) pe_int (nomark _))
        (pss_one (ps_ret (pe_cmpR (eqX P w K mg base hr) (pc (cal_multiplied T) hr (pa_cons (pv 9) (pa_cons (pe_tup pa_nil) pa_nil))) (pe_callTy (kTuple K) (by rfl) T.N_tuple (by decide +kernel) (pa_cons (pe_lc (own := [("_law_row", 12)]) (g := gName 12) (tt := tYes) (by rfl) sc_w_right.nd (kPiL K (pv 6)) (blkOk_by (own := [("_law_row", 12)]) (N := n_w_right) (by rfl)) (fun _ _ _ _ _ => pg_name (i := 12) sc_w_right.nd rfl (by first | exact Or.inl rfl | exact Or.inr rfl)) (fun _ _ _ _ _ => pts_nil) (fun _ _ _ _ _ => pe_hid (pe_tup pa_nil))) pa_nil)) (nomark _))))
        (pss_nil))
      (pss_cons (ps_if (pt_cmpR (neX P w K mg base hr) (pc (cal_multiplied T) hr (pa_cons (pc (cal_multiplied T) hr (pa_cons (pv 9) (pa_cons (pv 10) pa_nil))) (pa_cons (pv 11) pa_nil))) (pc (cal_multiplied T) hr (pa_cons (pv 9) (pa_cons (pc (cal_multiplied T) hr (pa_cons (pv 10) (pa_cons (pv 11) pa_nil))) pa_nil))) (nomark _))
        (pss_one (ps_ret pe_bl))
        (pss_nil))
      (pss_cons (ps_if (PW.pt (pw_and (pt_cmpR op_eq (pv 5) pe_int (nomark _)) (pw_and1 (pt_cmpR (neX P w K mg base hr) (pc (cal_multiplied T) hr (pa_cons (pv 10) (pa_cons (pv 11) pa_nil))) (pe_callTy (kTuple K) (by rfl) T.N_tuple (by decide +kernel) (pa_cons (pe_lc (own := [("_law_row", 12)]) (g := gName 12) (tt := tYes) (by rfl) sc_w_right.nd (kPiL K (pv 7)) (blkOk_by (own := [("_law_row", 12)]) (N := n_w_right) (by rfl)) (fun _ _ _ _ _ => pg_name (i := 12) sc_w_right.nd rfl (by first | exact Or.inl rfl | exact Or.inr rfl)) (fun _ _ _ _ _ => pts_nil) (fun _ _ _ _ _ => pe_hid (pe_tup pa_nil))) pa_nil)) (nomark _)))))
        (pss_one (ps_ret pe_bl))
        (pss_nil))
      (pss_one (ps_ret (pe_or (pe_cmpR op_eq (pv 2) pe_int (nomark _)) (pe_one (pe_cmpR (eqX P w K mg base hr) (pc (cal_turned T) hr (pa_cons (pc (cal_multiplied T) hr (pa_cons (pv 9) (pa_cons (pv 10) pa_nil))) pa_nil)) (pc (cal_multiplied T) hr (pa_cons (pc (cal_turned T) hr (pa_cons (pv 10) pa_nil)) (pa_cons (pc (cal_turned T) hr (pa_cons (pv 9) pa_nil)) pa_nil))) (nomark _))))))))))))))), ?_⟩
  obtain ⟨u, rfl, hu, k⟩ := h
  walk_at "rd"
  refine ⟨_, _, rfl, u, 5, rfl, hu, rfl, by decide, by decide, fun a H1 a0 a1 e1 => ?_⟩
  have hu1 := e1 _ _ hu
  walk_at "rd"
  refine ⟨_, _, rfl, u, 5, rfl, hu1, rfl, by decide, by decide, fun b H2 b0 b1 e2 => ?_⟩
  have hu2 := e2 _ _ hu1
  walk_at "rd"
  refine ⟨_, _, rfl, u, 3, rfl, hu2, rfl, by decide, by decide, fun c H3 c0 c1 e3 => ?_⟩
  have hu3 := e3 _ _ hu2
  walk_at "rd"
  refine ⟨_, _, rfl, u, 4, rfl, hu3, rfl, by decide, by decide, fun d H4 d0 d1 e4 => ?_⟩
  have hu4 := e4 _ _ hu3
  obtain ⟨a, rfl⟩ : ∃ n : Nat, a = n := ⟨a.toNat, by omega⟩
  obtain ⟨b, rfl⟩ : ∃ n : Nat, b = n := ⟨b.toNat, by omega⟩
  obtain ⟨c', hc⟩ : ∃ n : Nat, 1 + c = n := ⟨(1 + c).toNat, by omega⟩
  obtain ⟨d, rfl⟩ : ∃ n : Nat, d = n := ⟨d.toNat, by omega⟩
  have hc1 : 0 < c' ∧ c' ≤ 3 := by omega
  rw [hc]
  clear hc c0 c1 c
  have a1 : a ≤ 4 := by omega
  have b1 : b ≤ 4 := by omega
  have d1 : d ≤ 3 := by omega
  have tot := ((e1.trans e2).trans e3).trans e4
  clear e1 e2 e3 e4 hu hu1 hu2 hu3
  walk_at "rd"
  refine ⟨by show 4 ≤ sizeLine; decide, fun p hp => ?_⟩
  have e5 := Same.new (o := .tup [V.int a, .int b, .int c', .int d]) hp
  have h5 : upd H4 p (.tup [V.int a, .int b, .int c', .int d]) p = some (.tup [V.int a, .int b, .int c', .int d]) := upd_same
  generalize upd H4 p (.tup [V.int a, .int b, .int c', .int d]) = H5 at *
  replace tot := tot.trans e5
  have hu5 := e5 _ _ hu4
  refine rd_gtup4 h5 ?_
  walk_at "rd"
  refine ⟨_, _, _, rfl, u, a, b, rfl, hu5, rfl, rfl, by omega, by omega, fun v6 H6 A e6 hA rA => ?_⟩
  have hu6 := e6 _ _ hu5
  walk_at "rd"
  refine ⟨_, _, _, rfl, u, b, c', rfl, hu6, rfl, rfl, by omega, by omega, fun v7 H7 B e7 hB rB => ?_⟩
  have hu7 := e7 _ _ hu6
  replace rA := rA.up' e7
  walk_at "rd"
  refine ⟨_, _, _, rfl, u, c', d, rfl, hu7, rfl, rfl, by omega, by omega, fun v8 H8 C e8 hC rC => ?_⟩
  replace rA := rA.up' e8
  replace rB := rB.up' e8
  replace tot := ((tot.trans e6).trans e7).trans e8
  clear e5 e6 e7 e8 hu4 hu5 hu6 hu7 h5 hp
  walk_at "rd"
  refine ⟨by show 3 ≤ sizeLine; decide, fun p hp => ?_⟩
  have e9 := Same.new (o := .tup [v6, v7, v8]) hp
  have h9 : upd H8 p (.tup [v6, v7, v8]) p = some (.tup [v6, v7, v8]) := upd_same
  generalize upd H8 p (.tup [v6, v7, v8]) = H9 at *
  replace rA := rA.up' e9
  replace rB := rB.up' e9
  replace rC := rC.up' e9
  replace tot := tot.trans e9
  refine rd_gtup3 h9 ?_
  clear e9 h9 hp
  walk_at "rd"
  refine rd_par3 ?_
  walk_at "rd"
  refine ⟨_, rfl, A, rA, hA.sm (by decide), fun v9 H10 e10 hOne => ?_⟩
  replace rA := rA.up' e10
  replace rB := rB.up' e10
  replace rC := rC.up' e10
  walk_at "rd"
  refine ⟨_, rfl, B, rB, hB.sm (by decide), fun v10 H11 e11 hTwo => ?_⟩
  replace rA := rA.up' e11
  replace rB := rB.up' e11
  replace rC := rC.up' e11
  replace hOne := hOne.up' e11
  walk_at "rd"
  refine ⟨_, rfl, C, rC, hC.sm (by decide), fun v11 H12 e12 hThree => ?_⟩
  replace rA := rA.up' e12
  replace rB := rB.up' e12
  replace rC := rC.up' e12
  replace hOne := hOne.up' e12
  replace hTwo := hTwo.up' e12
  replace tot := ((tot.trans e10).trans e11).trans e12
  clear e10 e11 e12
  walk_at "rd"
  refine rd_ex3 ?_
  walk_at "rd"
  -- turned(one) != told(..)
  obtain ⟨m', n', hm', hn', hT⟩ := tr_lt hA (by omega) (by omega)
  refine tur_of hOne hA (by omega) (by omega) (by decide) fun w1 G1 f1 g1 => ?_
  replace rA := rA.up' f1
  replace rB := rB.up' f1
  replace rC := rC.up' f1
  replace hOne := hOne.up' f1
  replace hTwo := hTwo.up' f1
  replace hThree := hThree.up' f1
  walk_at "rd"
  refine ⟨_, _, rfl, A, b, rA, rfl, by omega, hA.2.1, fun w2 G2 f2 g2 => ?_⟩
  replace rA := rA.up' f2
  replace rB := rB.up' f2
  replace rC := rC.up' f2
  replace hOne := hOne.up' f2
  replace hTwo := hTwo.up' f2
  replace hThree := hThree.up' f2
  replace g1 := g1.up' f2
  rw [← tr_ltr hA] at g2
  walk_at "rd"
  refine ⟨_, rfl, tr A, g2, hT.sm (by decide), fun w3 G3 f3 g3 => ?_⟩
  replace rA := rA.up' f3
  replace rB := rB.up' f3
  replace rC := rC.up' f3
  replace hOne := hOne.up' f3
  replace hTwo := hTwo.up' f3
  replace hThree := hThree.up' f3
  replace g1 := g1.up' f3
  refine rd_neX (nc_Mat T (by decide)) g1 g3 fun G4 f4 => ?_
  replace rA := rA.up' f4
  replace rB := rB.up' f4
  replace rC := rC.up' f4
  replace hOne := hOne.up' f4
  replace hTwo := hTwo.up' f4
  replace hThree := hThree.up' f4
  replace tot := (((tot.trans f1).trans f2).trans f3).trans f4
  clear f1 f2 f3 f4 g1 g2 g3
  walk_at "rd"
  refine ite_f (by rw [decide_eq_true rfl]; rfl) ?_
  walk_at "rd"
  -- turned(turned(one)) != ..
  refine tur_of hOne hA (by omega) (by omega) (by decide) fun w1 G1 f1 g1 => ?_
  replace rA := rA.up' f1
  replace rB := rB.up' f1
  replace rC := rC.up' f1
  replace hOne := hOne.up' f1
  replace hTwo := hTwo.up' f1
  replace hThree := hThree.up' f1
  walk_at "rd"
  refine tur_of g1 hT hm' hn' (by decide) fun w2 G2 f2 g2 => ?_
  replace rA := rA.up' f2
  replace rB := rB.up' f2
  replace rC := rC.up' f2
  replace hOne := hOne.up' f2
  replace hTwo := hTwo.up' f2
  replace hThree := hThree.up' f2
  refine rd_keep hOne hA rfl rfl rfl fun w3 G3 f3 g3 => ?_
  replace rA := rA.up' f3
  replace rB := rB.up' f3
  replace rC := rC.up' f3
  replace hOne := hOne.up' f3
  replace hTwo := hTwo.up' f3
  replace hThree := hThree.up' f3
  replace g2 := g2.up' f3
  refine rd_neX (nc_Mat T (by decide)) g2 g3 fun G4 f4 => ?_
  replace rA := rA.up' f4
  replace rB := rB.up' f4
  replace rC := rC.up' f4
  replace hOne := hOne.up' f4
  replace hTwo := hTwo.up' f4
  replace hThree := hThree.up' f4
  replace tot := (((tot.trans f1).trans f2).trans f3).trans f4
  clear f1 f2 f3 f4 g1 g2 g3
  walk_at "rd"
  refine ite_f (by rw [decide_eq_true rfl]; rfl) ?_
  walk_at "rd"
  -- both
  refine lcL rA (fun J W hz => ?_)
  refine lcK_name (S := RL K (RQP K)) (K := K) W hz (fun row => vm row B (wd B)) (fun v1 G1 f1 g1 => ?_) (fun row G x hrow e hx Kt hk => ?_)
  case refine_2 =>
    have bw : ∀ q ∈ row, Bd 66 q := fun q hq => (hA.2.2 row hrow q hq).mono (by decide)
    have bB : ∀ r ∈ B, ∀ q ∈ r, Bd 66 q := fun r hr q hq => (hB.2.2 r hr q hq).mono (by decide)
    have lB : B.length ≤ 8 := by rw [hB.1]; omega
    walk_at "rd"
    refine ite_dec (fun hb => ?_) (fun hb => ?_)
    · walk_at "rd"
      exact ⟨_, _, _, rfl, B, row, c', rB.up' e, hx, rfl, by omega, lB, bB, bw, fun v H' e hv => hk v H' e (by rw [hB.wd (by omega)]; exact hv)⟩
    · walk_at "rd"
      refine ⟨_, _, _, rfl, B, row, 0, rB.up' e, hx, rfl, by omega, lB, bB, bw, fun v H' e hv => hk v H' e ?_⟩
      have hB0 : B = [] := List.eq_nil_of_length_eq_zero (by rw [hB.1]; omega)
      rw [show wd B = 0 by rw [hB0]; rfl]
      exact hv
  replace g1 : RL K (RL K (RQP K)) G1 v1 (mm A B) := g1
  replace rA := rA.up' f1
  replace rB := rB.up' f1
  replace rC := rC.up' f1
  replace hOne := hOne.up' f1
  replace hTwo := hTwo.up' f1
  replace hThree := hThree.up' f1
  walk_at "rd"
  -- multiplied(one, two) != told(both)
  obtain ⟨n2, hn2, hAB⟩ := AB_lt hA hB b1 (by omega)
  refine mul_of2 hOne hTwo hA hB (by omega) (by omega) (by omega) (by decide) (by decide) fun w2 G2 f2 g2 => ?_
  replace rA := rA.up' f2
  replace rB := rB.up' f2
  replace rC := rC.up' f2
  replace hOne := hOne.up' f2
  replace hTwo := hTwo.up' f2
  replace hThree := hThree.up' f2
  replace g1 := g1.up' f2
  walk_at "rd"
  refine ⟨_, rfl, mm A B, g1, hAB.sm (by decide), fun w3 G3 f3 g3 => ?_⟩
  replace rA := rA.up' f3
  replace rB := rB.up' f3
  replace rC := rC.up' f3
  replace hOne := hOne.up' f3
  replace hTwo := hTwo.up' f3
  replace hThree := hThree.up' f3
  replace g2 := g2.up' f3
  refine rd_neX (nc_Mat T (by decide)) g2 g3 fun G4 f4 => ?_
  replace rA := rA.up' f4
  replace rB := rB.up' f4
  replace rC := rC.up' f4
  replace hOne := hOne.up' f4
  replace hTwo := hTwo.up' f4
  replace hThree := hThree.up' f4
  replace tot := (((tot.trans f1).trans f2).trans f3).trans f4
  clear f1 f2 f3 f4 g1 g2 g3
  walk_at "rd"
  refine ite_f (by rw [decide_eq_true rfl]; rfl) ?_
  walk_at "rd"
  refine ite_dec (fun hb0 => ?_) (fun hb0 => ?_)
  · -- no rows in the middle
    obtain rfl : b = 0 := by omega
    walk_at "rd"
    refine ⟨by show 0 ≤ sizeLine; decide, fun p hp => ?_⟩
    have f1 := Same.new (o := .tup []) hp
    have g1 : RMat K (upd G4 p (.tup [])) (.ref p) [] := RT.emp upd_same
    generalize upd G4 p (.tup []) = G5 at *
    walk_at "rd"
    refine mul_of2 (hOne.up' f1) g1 hA (nil_lt 3) (by omega) (by omega) (Nat.zero_le _) (by decide) (by decide) fun w2 G6 f2 g2 => ?_
    walk_at "rd"
    refine lcL (rA.up' (f1.trans f2)) (fun J W hz => ?_)
    refine lcK_name (S := RRow K) (K := K) W hz (fun row => []) (fun v1 G7 f3 g3 => ?_) (fun row G x hrow e hx Kt hk => ?_)
    case refine_2 =>
      walk_at "rd"
      exact ⟨by show 0 ≤ sizeLine; decide, fun p hp => hk _ _ (Same.new hp) (RT.emp upd_same)⟩
    walk_at "rd"
    refine rd_tupleL g3 fun v2 G8 f4 g4 => ?_
    refine rd_eqX (ec_Mat T (by decide)) (g2.up' (f3.trans f4)) g4 fun G9 f5 => ?_
    rw [decide_eq_true (mm_nil rfl)]
    exact k _ ((((tot.trans f1).trans f2).trans f3).trans (f4.trans f5))
  have hb1 : 0 < b := by omega
  clear hb0
  have hABc : Ltb 29 a c' (mm A B) := (hA.mm hB hb1).mono (by omega)
  have hBCd : Ltb 29 b d (mm B C) := (hB.mm hC hc1.1).mono (by omega)
  walk_at "rd"
  refine mul_of2 hOne hTwo hA hB (by omega) (by omega) (by omega) (by decide) (by decide) fun w2 G5 f1 g1 => ?_
  replace rA := rA.up' f1
  replace rB := rB.up' f1
  replace rC := rC.up' f1
  replace hOne := hOne.up' f1
  replace hTwo := hTwo.up' f1
  replace hThree := hThree.up' f1
  walk_at "rd"
  refine mul_of2 g1 hThree hABc hC (by omega) (by omega) (by omega) (by decide) (by decide) fun w3 G6 f2 g2 => ?_
  replace rA := rA.up' f2
  replace rB := rB.up' f2
  replace rC := rC.up' f2
  replace hOne := hOne.up' f2
  replace hTwo := hTwo.up' f2
  replace hThree := hThree.up' f2
  walk_at "rd"
  refine mul_of2 hTwo hThree hB hC (by omega) (by omega) (by omega) (by decide) (by decide) fun w4 G7 f3 g3 => ?_
  replace rA := rA.up' f3
  replace rB := rB.up' f3
  replace rC := rC.up' f3
  replace hOne := hOne.up' f3
  replace hTwo := hTwo.up' f3
  replace hThree := hThree.up' f3
  replace g2 := g2.up' f3
  walk_at "rd"
  refine mul_of2 hOne g3 hA hBCd (by omega) (by omega) (by omega) (by decide) (by decide) fun w5 G8 f4 g4 => ?_
  replace rA := rA.up' f4
  replace rB := rB.up' f4
  replace rC := rC.up' f4
  replace hOne := hOne.up' f4
  replace hTwo := hTwo.up' f4
  replace hThree := hThree.up' f4
  replace g2 := g2.up' f4
  refine rd_neX (nc_Mat T (by decide)) g2 g4 fun G9 f5 => ?_
  replace rA := rA.up' f5
  replace rB := rB.up' f5
  replace rC := rC.up' f5
  replace hOne := hOne.up' f5
  replace hTwo := hTwo.up' f5
  replace hThree := hThree.up' f5
  replace tot := ((((tot.trans f1).trans f2).trans f3).trans f4).trans f5
  clear f1 f2 f3 f4 f5 g1 g2 g3 g4
  walk_at "rd"
  refine ite_f (by rw [decide_eq_true (assoc_of hA hB hC hb1 hc1.1)]; rfl) ?_
  walk_at "rd"
  have fin : ∀ (G : Hp), Same H G → RMat K G v9 A → RMat K G v10 B → ∀ (o12 : Option V) (o1 : V), if decide ((a : Int) = 0) = true then Q (.bl true) G else tOp (rEqX P w K mg base 10) (tCallR (sp_turned K) E0 (tCons (tCallR (sp_multiplied K) E0 (tCons (tVar 9) (tCons (tVar 10) tNil))) tNil)) (tCallR (sp_multiplied K) E0 (tCons (tCallR (sp_turned K) E0 (tCons (tVar 10) tNil)) (tCons (tCallR (sp_turned K) E0 (tCons (tVar 9) tNil)) tNil)))
      [some (.ref u), some o1, some (.int (a : Nat)), some (.int (b : Nat)), some (.int (c' : Nat)), some (.int (d : Nat)), some v6, some v7, some v8, some v9, some v10, some v11, o12] G Q := fun G tot hOne hTwo o12 o1 => by
    refine ite_dec (fun ha => k _ tot) (fun ha => ?_)
    have ha1 : 0 < a := by omega
    walk_at "rd"
    refine mul_of2 hOne hTwo hA hB (by omega) (by omega) (by omega) (by decide) (by decide) fun w2 G5 f1 g1 => ?_
    replace hOne := hOne.up' f1
    replace hTwo := hTwo.up' f1
    walk_at "rd"
    refine tur_of g1 hABc (by omega) (by omega) (by decide) fun w3 G6 f2 g2 => ?_
    replace hOne := hOne.up' f2
    replace hTwo := hTwo.up' f2
    walk_at "rd"
    refine tur_of hTwo hB (by omega) (by omega) (by decide) fun w4 G7 f3 g3 => ?_
    replace hOne := hOne.up' f3
    replace g2 := g2.up' f3
    walk_at "rd"
    refine tur_of hOne hA (by omega) (by omega) (by decide) fun w5 G8 f4 g4 => ?_
    replace g3 := g3.up' f4
    replace g2 := g2.up' f4
    walk_at "rd"
    refine mul_of2 g3 g4 (hB.tr hb1) (hA.tr ha1) (by omega) (by omega) (by omega) (by decide) (by decide) fun w6 G9 f5 g5 => ?_
    replace g2 := g2.up' f5
    refine rd_eqX (ec_Mat T (by decide)) g2 g5 fun G10 f6 => ?_
    rw [decide_eq_true (turn_mm hA hB ha1 hb1 hc1.1)]
    exact k _ ((((((tot.trans f1).trans f2).trans f3).trans f4).trans f5).trans f6)
  refine ite_dec (fun hd => ?_) (fun hd => ?_)
  · walk_at "rd"
    refine mul_of2 hTwo hThree hB hC (by omega) (by omega) (by omega) (by decide) (by decide) fun w6 G10 f1 g1 => ?_
    walk_at "rd"
    refine lcL (rB.up' f1) (fun J W hz => ?_)
    refine lcK_name (S := RRow K) (K := K) W hz (fun row => []) (fun v1 G11 f2 g2 => ?_) (fun row G x hrow e hx Kt hk => ?_)
    case refine_2 =>
      walk_at "rd"
      exact ⟨by show 0 ≤ sizeLine; decide, fun p hp => hk _ _ (Same.new hp) (RT.emp upd_same)⟩
    walk_at "rd"
    refine rd_tupleL g2 fun v2 G12 f3 g3 => ?_
    refine rd_neX (nc_Mat T (by decide)) (g1.up' (f2.trans f3)) g3 fun G13 f4 => ?_
    have f14 := ((f1.trans f2).trans f3).trans f4
    walk_at "rd"
    refine ite_f (by rw [decide_eq_true (mm_zero (by rw [hC.wd hc1.1]; omega))]; rfl) ?_
    walk_at "rd"
    exact fin _ (tot.trans f14) (hOne.up' f14) (hTwo.up' f14) _ _
  · walk_at "rd"
    exact fin _ tot hOne hTwo _ _
end
end LW
end
section
set_option Elab.async false
set_option linter.all false
set_option maxRecDepth 100000
set_option maxHeartbeats 4000000
set_option exponentiation.threshold 20000
namespace LW
open PySem PySem.Spec PyProof.Rows L2 Wo
local macro_rules | `(tactic| walk_at "lf") => `(tactic| first | assumption | (refine Up.up (by assumption) ?_; walk_at "lf") | (refine RAll.up (by assumption) ?_; walk_at "lf") | (refine Ob2.up (by assumption) ?_; walk_at "lf"))
local macro_rules | `(tactic| walk_at "side") => `(tactic| first | (unfold CMul; omega) | (unfold CDiv; omega) | (unfold CDivN; omega) | (unfold CPow; omega) | (show (0 : Int) < _; omega) | decide)
local macro_rules | `(tactic| walk_at "rd1") => `(tactic| first
  | ((with_reducible refine rd_var (v := ?v) ?h ?_); (case h => rfl))
  | with_reducible refine rd_c ?_
  | with_reducible refine rd_op ?_
  | with_reducible refine rd_I0 ?_
  | with_reducible refine rd_I ?_ ?_
  | with_reducible refine rd_U ?_
  | with_reducible refine rd_eqI ?_
  | with_reducible refine rd_neI ?_
  | with_reducible refine rd_eqS ?_
  | with_reducible refine rd_neS ?_
  | with_reducible refine rd_un ?_
  | with_reducible refine rd_test ?_
  | with_reducible refine rd_tB ?_
  | with_reducible refine rd_exB ?_
  | with_reducible refine rd_cons ?_
  | with_reducible refine rd_nil ?_
  | with_reducible refine rd_call ?_
  | with_reducible refine rd_cb ?_
  | with_reducible refine rd_seq ?_
  | with_reducible refine rd_asg ?_
  | with_reducible refine rd_gname ?_
  | with_reducible refine rd_ret ?_
  | with_reducible refine rd_ifS ?_
  | with_reducible refine rd_next ?_
  | with_reducible refine rd_drop ?_
  | with_reducible refine rd_if ?_
  | with_reducible refine rd_not ?_
  | with_reducible refine rd_and ?_
  | with_reducible refine rd_or ?_
  | with_reducible refine rd_andV ?_
  | with_reducible refine rd_orV ?_
  | with_reducible refine rd_notV ?_
  | with_reducible refine rd_chain ?_
  | with_reducible refine rd_slot ?_
  | with_reducible refine rd_sst ?_
  | with_reducible refine rd_par ?_
  | with_reducible refine rd_ex2 ?_
  | with_reducible refine rd_gcd ?_
  | with_reducible refine rd_prop ?_
  | with_reducible refine rd_sub ?_
  | with_reducible refine rd_lcm ?_ ?_
  | with_reducible refine rd_forL ?_
  | with_reducible refine rd_forT ?_
  | with_reducible refine rd_forR1 ?_
  | with_reducible refine rd_forZ ?_
  | with_reducible refine rd_lcL ?_
  | with_reducible refine rd_lcT ?_
  | with_reducible refine rd_lcR1 ?_
  | with_reducible refine rd_lcR2 ?_
  | with_reducible refine rd_lcZ ?_
  | with_reducible refine rd_lc2TT ?_
  | with_reducible refine rd_abs ?_
  | with_reducible refine rd_int ?_
  | with_reducible refine rd_intB ?_
  | with_reducible refine rd_max2 ?_
  | with_reducible refine rd_min2 ?_
  | with_reducible refine rd_tup ?_
  | with_reducible refine rd_lst ?_
  | with_reducible refine ite_T ?_
  | with_reducible refine ite_n ?_
  | with_reducible refine ite_y ?_
  | with_reducible refine ite_F ?_
  | with_reducible refine rd_retN ?_)
local macro_rules | `(tactic| walk_at "rd") => `(tactic| repeat walk_at "rd1")
local macro_rules | `(tactic| walk_at "sd") => `(tactic| first | exact Or.inl ⟨by decide, by decide⟩ | exact Or.inr ⟨by decide, by decide⟩ | (show (0 : Int) < _; decide +kernel) | exact ⟨by decide, by decide, by decide +kernel⟩ | exact ⟨by decide, by decide +kernel⟩)
section
variable {P : Program} {w : World} {K : PySem.W.Frag} {mg : Str → Option Value} {base : Heap}
theorem M0_lt : Ltb 3 2 2 ([[(1 : Rat), (2 : Rat)], [(0 : Rat), Rat.divInt 1 2]] : List (List Rat)) := ⟨rfl, by decide +kernel, by unfold Bd; decide +kernel⟩
theorem M1_sm : ∀ r ∈ ([[(1 : Rat), (3 : Rat)], [(0 : Rat), Rat.divInt 1 4]] : List (List Rat)), ∀ q ∈ r, Sm q := by unfold Sm; decide +kernel
theorem M0_sq : mm [[(1 : Rat), (2 : Rat)], [(0 : Rat), Rat.divInt 1 2]] [[(1 : Rat), (2 : Rat)], [(0 : Rat), Rat.divInt 1 2]] = [[(1 : Rat), (3 : Rat)], [(0 : Rat), Rat.divInt 1 4]] := by decide +kernel
theorem E_lt : Ltb 3 2 0 [[], []] := ⟨rfl, by decide +kernel, by unfold Bd; decide +kernel⟩
def sp_law (K : PySem.W.Frag) : Sp := sp1 fun x H Q _ => ∃ ns : List Int, RL K RI H x ns ∧ ∀ H', Same H H' → Q (.bl true) H'
abbrev n_law : List Str := ["_law_script", "_law_at", "_law_rows"]
theorem sc_law : FnScope n_law ["_law_script"] (defScope s_law) := ⟨rfl, rfl, rfl, by decide +kernel, rfl, by decide +kernel, by decide +kernel⟩
theorem ok_law (T : Tx K mg) {fd : FuncData} (F : FunD K "law" "law" (defArgs s_law) (defBody s_law) (defScope s_law) [] [] (gA "law" K) fd) : FnOk P w K mg base (CXW P w) 12 (gA "law" K) fd ["_law_script"] (sp_law K) := by
  refine FunD.ok (k := 11) F sc_law (fun vs H Q E h => ?_) (fun cdv A outer s H vs Q E hr h => ?_)
  · obtain ⟨v0, rfl, _⟩ := h
    rfl
  obtain ⟨v0, rfl, h⟩ := h
  refine ⟨_, pss_cons (ps_for (passes_of rfl) rfl (pi_range1 rfl T.N_range (pa_cons (pe_callB (bi_max2 rfl) (by rfl) T.N_max (by decide +kernel) (pa_cons pe_int (pa_cons (pe_callB (bi_min2 rfl) (by rfl) T.N_min (by decide +kernel) (pa_cons pe_int (pa_cons (pe_callB (kLen K) (by rfl) T.N_len (by decide +kernel) (pa_cons (pv 0) pa_nil)) pa_nil))) pa_nil))) pa_nil)) (pg_name (i := 1) sc_law.nd rfl (by first | exact Or.inl rfl | exact Or.inr rfl))
        (pss_one (ps_if (pt_not (pt_val (pc (cal_w_right T) hr (pa_cons (pc (cal_well T) hr (pa_cons (pv 0) (pa_cons (pv 1) pa_nil))) pa_nil))))
        (pss_one (ps_ret pe_bl))
        (pss_nil))))
      (pss_cons (ps_set (i := 2) sc_law.nd rfl (by first | exact Or.inl rfl | exact Or.inr rfl) (pc (cal_w_told T) hr (pa_cons (pe_lst (pa_cons (pe_lst (pa_cons (pe_tup (pa_cons pe_int (pa_cons pe_int pa_nil))) (pa_cons (pe_tup (pa_cons pe_int (pa_cons pe_int pa_nil))) pa_nil))) (pa_cons (pe_lst (pa_cons (pe_tup (pa_cons pe_int (pa_cons pe_int pa_nil))) (pa_cons (pe_tup (pa_cons pe_int (pa_cons pe_int pa_nil))) pa_nil))) pa_nil))) pa_nil)))
      (pss_cons (ps_if (PW.pt (pw_or (pt_cmpR (neX P w K mg base hr) (pc (cal_turned T) hr (pa_cons (pe_tup (pa_cons (pe_tup pa_nil) (pa_cons (pe_tup pa_nil) pa_nil))) pa_nil)) (pe_tup pa_nil) (nomark _)) (pw_or (pt_cmpR (neX P w K mg base hr) (pc (cal_turned T) hr (pa_cons (pe_tup pa_nil) pa_nil)) (pe_tup pa_nil) (nomark _)) (pw_or1 (pt_cmpR (neX P w K mg base hr) (pc (cal_multiplied T) hr (pa_cons (pe_tup pa_nil) (pa_cons (pv 2) pa_nil))) (pe_tup pa_nil) (nomark _))))))
        (pss_one (ps_ret pe_bl))
        (pss_nil))
      (pss_one (ps_ret (pe_cmpR (eqX P w K mg base hr) (pc (cal_multiplied T) hr (pa_cons (pv 2) (pa_cons (pv 2) pa_nil))) (pc (cal_w_told T) hr (pa_cons (pe_lst (pa_cons (pe_lst (pa_cons (pe_tup (pa_cons pe_int (pa_cons pe_int pa_nil))) (pa_cons (pe_tup (pa_cons pe_int (pa_cons pe_int pa_nil))) pa_nil))) (pa_cons (pe_lst (pa_cons (pe_tup (pa_cons pe_int (pa_cons pe_int pa_nil))) (pa_cons (pe_tup (pa_cons pe_int (pa_cons pe_int pa_nil))) pa_nil))) pa_nil))) pa_nil)) (nomark _)))))), ?_⟩
  obtain ⟨ns, hns, k⟩ := h
  walk_at "rd"
  refine rd_lenL hns ?_
  walk_at "rd"
  refine forR1 (by omega) (by omega) (fun J W => ?_)
  refine forK W (fun i σ' H' => (∃ o, σ' = [some v0, o, none]) ∧ Same H H') ⟨⟨_, rfl⟩, Same.refl _⟩ (fun _ _ _ h => h.2) (fun i σ' H' x vx H'' ha hI e e' hx => ?_) (fun σ' H' hI => ?_)
  · obtain ⟨⟨o, rfl⟩, _⟩ := hI
    obtain rfl := hx
    have hx0 : 0 ≤ x := (rgI_mem.mp (List.mem_of_getElem? ha)).1
    obtain ⟨j, rfl⟩ : ∃ j : Nat, x = j := ⟨x.toNat, by omega⟩
    walk_at "rd"
    refine ⟨_, _, rfl, ns, j, hns.up' e', rfl, fun u H2 e2 hu => ?_⟩
    walk_at "rd"
    refine ⟨_, rfl, u, rfl, hu, fun H3 e3 => ?_⟩
    walk_at "rd"
    exact ⟨⟨_, rfl⟩, (e'.trans e2).trans e3⟩
  obtain ⟨⟨o, rfl⟩, tot⟩ := hI
  generalize hH1 : H' = H1 at *
  clear hH1
  walk_at "rd"
  refine ⟨by show 2 ≤ sizeLine; decide, fun ap00 hp => ?_⟩
  have ae0 := Same.new (o := .tup [V.int 1, V.int 1]) hp
  have h_ap00 : upd H1 ap00 (.tup [V.int 1, V.int 1]) ap00 = some (.tup [V.int 1, V.int 1]) := upd_same
  generalize upd H1 ap00 (.tup [V.int 1, V.int 1]) = a0 at *
  clear hp
  have af00 : RQP K a0 (.ref ap00) ((1 : Rat)) := rqp_of h_ap00 (by decide +kernel) (by decide +kernel)
  walk_at "rd"
  refine ⟨by show 2 ≤ sizeLine; decide, fun ap01 hp => ?_⟩
  have ae1 := Same.new (o := .tup [V.int 2, V.int 1]) hp
  have h_ap01 : upd a0 ap01 (.tup [V.int 2, V.int 1]) ap01 = some (.tup [V.int 2, V.int 1]) := upd_same
  generalize upd a0 ap01 (.tup [V.int 2, V.int 1]) = a1 at *
  clear hp
  have af01 : RQP K a1 (.ref ap01) ((2 : Rat)) := rqp_of h_ap01 (by decide +kernel) (by decide +kernel)
  walk_at "rd"
  refine ⟨by show 2 ≤ sizeLine; decide, fun al0 hp => ?_⟩
  have ae2 := Same.new (o := .lst [V.ref ap00, V.ref ap01]) hp
  have h_al0 : upd a1 al0 (.lst [V.ref ap00, V.ref ap01]) al0 = some (.lst [V.ref ap00, V.ref ap01]) := upd_same
  generalize upd a1 al0 (.lst [V.ref ap00, V.ref ap01]) = a2 at *
  clear hp
  have ag0 : RL K (RQP K) a2 (.ref al0) [(1 : Rat), (2 : Rat)] := RL.at h_al0 (.cons (Up.up (ae1.trans ae2) af00) (.cons (Up.up ae2 af01) .nil)) (by show 2 ≤ sizeLine; decide)
  walk_at "rd"
  refine ⟨by show 2 ≤ sizeLine; decide, fun ap10 hp => ?_⟩
  have ae3 := Same.new (o := .tup [V.int 0, V.int 1]) hp
  have h_ap10 : upd a2 ap10 (.tup [V.int 0, V.int 1]) ap10 = some (.tup [V.int 0, V.int 1]) := upd_same
  generalize upd a2 ap10 (.tup [V.int 0, V.int 1]) = a3 at *
  clear hp
  have af10 : RQP K a3 (.ref ap10) ((0 : Rat)) := rqp_of h_ap10 (by decide +kernel) (by decide +kernel)
  walk_at "rd"
  refine ⟨by show 2 ≤ sizeLine; decide, fun ap11 hp => ?_⟩
  have ae4 := Same.new (o := .tup [V.int 1, V.int 2]) hp
  have h_ap11 : upd a3 ap11 (.tup [V.int 1, V.int 2]) ap11 = some (.tup [V.int 1, V.int 2]) := upd_same
  generalize upd a3 ap11 (.tup [V.int 1, V.int 2]) = a4 at *
  clear hp
  have af11 : RQP K a4 (.ref ap11) (Rat.divInt 1 2) := rqp_of h_ap11 (by decide +kernel) (by decide +kernel)
  walk_at "rd"
  refine ⟨by show 2 ≤ sizeLine; decide, fun al1 hp => ?_⟩
  have ae5 := Same.new (o := .lst [V.ref ap10, V.ref ap11]) hp
  have h_al1 : upd a4 al1 (.lst [V.ref ap10, V.ref ap11]) al1 = some (.lst [V.ref ap10, V.ref ap11]) := upd_same
  generalize upd a4 al1 (.lst [V.ref ap10, V.ref ap11]) = a5 at *
  clear hp
  have ag1 : RL K (RQP K) a5 (.ref al1) [(0 : Rat), Rat.divInt 1 2] := RL.at h_al1 (.cons (Up.up (ae4.trans ae5) af10) (.cons (Up.up ae5 af11) .nil)) (by show 2 ≤ sizeLine; decide)
  walk_at "rd"
  refine ⟨by show 2 ≤ sizeLine; decide, fun am hp => ?_⟩
  have ae6 := Same.new (o := .lst [V.ref al0, V.ref al1]) hp
  have h_am : upd a5 am (.lst [V.ref al0, V.ref al1]) am = some (.lst [V.ref al0, V.ref al1]) := upd_same
  generalize upd a5 am (.lst [V.ref al0, V.ref al1]) = a6 at *
  clear hp
  have aM : RL K (RL K (RQP K)) a6 (.ref am) [[(1 : Rat), (2 : Rat)], [(0 : Rat), Rat.divInt 1 2]] := RL.at h_am (.cons (ag0.up' (((ae3.trans ae4).trans ae5).trans ae6)) (.cons (ag1.up' ae6) .nil)) (by show 2 ≤ sizeLine; decide)
  walk_at "rd"
  refine ⟨_, rfl, _, aM, M0_lt.sm (by decide), fun vr H2 e2 hr2 => ?_⟩
  replace tot := (tot.trans ((((((ae0.trans ae1).trans ae2).trans ae3).trans ae4).trans ae5).trans ae6)).trans e2
  walk_at "rd"
  refine ⟨by show 0 ≤ sizeLine; decide, fun c1 hp => ?_⟩
  have ce1 := Same.new (o := .tup []) hp
  have h_c1 : upd H2 c1 (.tup []) c1 = some (.tup []) := upd_same
  generalize upd H2 c1 (.tup []) = C1 at *
  clear hp
  replace hr2 := hr2.up' ce1
  replace tot := tot.trans ce1
  walk_at "rd"
  refine ⟨by show 0 ≤ sizeLine; decide, fun c2 hp => ?_⟩
  have ce2 := Same.new (o := .tup []) hp
  have h_c2 : upd C1 c2 (.tup []) c2 = some (.tup []) := upd_same
  generalize upd C1 c2 (.tup []) = C2 at *
  clear hp
  replace hr2 := hr2.up' ce2
  replace tot := tot.trans ce2
  walk_at "rd"
  refine ⟨by show 2 ≤ sizeLine; decide, fun c3 hp => ?_⟩
  have ce3 := Same.new (o := .tup [V.ref c1, V.ref c2]) hp
  have h_c3 : upd C2 c3 (.tup [V.ref c1, V.ref c2]) c3 = some (.tup [V.ref c1, V.ref c2]) := upd_same
  generalize upd C2 c3 (.tup [V.ref c1, V.ref c2]) = C3 at *
  clear hp
  replace hr2 := hr2.up' ce3
  replace tot := tot.trans ce3
  have hE : RMat K C3 (.ref c3) [[], []] := RT.at h_c3 (.cons ((RT.emp h_c1).up' (ce2.trans ce3)) (.cons ((RT.emp h_c2).up' ce3) .nil)) (by show 2 ≤ sizeLine; decide)
  walk_at "rd"
  refine tur_of hE E_lt (by decide) (by decide) (by decide) fun w1 C4 ce4 g1 => ?_
  replace hr2 := hr2.up' ce4
  replace tot := tot.trans ce4
  walk_at "rd"
  refine ⟨by show 0 ≤ sizeLine; decide, fun c5 hp => ?_⟩
  have ce5 := Same.new (o := .tup []) hp
  have h_c5 : upd C4 c5 (.tup []) c5 = some (.tup []) := upd_same
  generalize upd C4 c5 (.tup []) = C5 at *
  clear hp
  replace hr2 := hr2.up' ce5
  replace tot := tot.trans ce5
  refine rd_neX (b := []) (nc_Mat T (by decide)) (g1.up' ce5) (RT.emp h_c5) fun C6 ce6 => ?_
  replace hr2 := hr2.up' ce6
  replace tot := tot.trans ce6
  walk_at "rd"
  refine ite_f (by rw [decide_eq_true (show tr [[], []] = [] from rfl)]; rfl) ?_
  walk_at "rd"
  refine ⟨by show 0 ≤ sizeLine; decide, fun c7 hp => ?_⟩
  have ce7 := Same.new (o := .tup []) hp
  have h_c7 : upd C6 c7 (.tup []) c7 = some (.tup []) := upd_same
  generalize upd C6 c7 (.tup []) = C7 at *
  clear hp
  replace hr2 := hr2.up' ce7
  replace tot := tot.trans ce7
  walk_at "rd"
  refine tur_of (RT.emp h_c7) (nil_lt 3) (by decide) (by decide) (by decide) fun w2 C8 ce8 g2 => ?_
  replace hr2 := hr2.up' ce8
  replace tot := tot.trans ce8
  walk_at "rd"
  refine ⟨by show 0 ≤ sizeLine; decide, fun c9 hp => ?_⟩
  have ce9 := Same.new (o := .tup []) hp
  have h_c9 : upd C8 c9 (.tup []) c9 = some (.tup []) := upd_same
  generalize upd C8 c9 (.tup []) = C9 at *
  clear hp
  replace hr2 := hr2.up' ce9
  replace tot := tot.trans ce9
  refine rd_neX (b := []) (nc_Mat T (by decide)) (g2.up' ce9) (RT.emp h_c9) fun C10 ce10 => ?_
  replace hr2 := hr2.up' ce10
  replace tot := tot.trans ce10
  walk_at "rd"
  refine ite_f (by rw [decide_eq_true (show tr [] = [] from rfl)]; rfl) ?_
  walk_at "rd"
  refine ⟨by show 0 ≤ sizeLine; decide, fun c11 hp => ?_⟩
  have ce11 := Same.new (o := .tup []) hp
  have h_c11 : upd C10 c11 (.tup []) c11 = some (.tup []) := upd_same
  generalize upd C10 c11 (.tup []) = C11 at *
  clear hp
  replace hr2 := hr2.up' ce11
  replace tot := tot.trans ce11
  walk_at "rd"
  refine mul_of2 (RT.emp h_c11) hr2 (k := 3) (a := 0) ⟨rfl, (fun r hr => by cases hr), fun r hr => by cases hr⟩ M0_lt (by decide) (by decide) (by decide) (by decide) (by decide) fun w3 C12 ce12 g3 => ?_
  replace hr2 := hr2.up' ce12
  replace tot := tot.trans ce12
  walk_at "rd"
  refine ⟨by show 0 ≤ sizeLine; decide, fun c13 hp => ?_⟩
  have ce13 := Same.new (o := .tup []) hp
  have h_c13 : upd C12 c13 (.tup []) c13 = some (.tup []) := upd_same
  generalize upd C12 c13 (.tup []) = C13 at *
  clear hp
  replace hr2 := hr2.up' ce13
  replace tot := tot.trans ce13
  refine rd_neX (b := []) (nc_Mat T (by decide)) (g3.up' ce13) (RT.emp h_c13) fun C14 ce14 => ?_
  replace hr2 := hr2.up' ce14
  replace tot := tot.trans ce14
  walk_at "rd"
  refine ite_f (by rw [decide_eq_true (show mm [] _ = [] from rfl)]; rfl) ?_
  walk_at "rd"
  refine mul_of2 hr2 hr2 M0_lt M0_lt (by decide) (by decide) (by decide) (by decide) (by decide) fun w4 H8 ce15 g4 => ?_
  replace tot := tot.trans ce15
  walk_at "rd"
  refine ⟨by show 2 ≤ sizeLine; decide, fun bp00 hp => ?_⟩
  have be0 := Same.new (o := .tup [V.int 1, V.int 1]) hp
  have h_bp00 : upd H8 bp00 (.tup [V.int 1, V.int 1]) bp00 = some (.tup [V.int 1, V.int 1]) := upd_same
  generalize upd H8 bp00 (.tup [V.int 1, V.int 1]) = b0 at *
  clear hp
  have bf00 : RQP K b0 (.ref bp00) ((1 : Rat)) := rqp_of h_bp00 (by decide +kernel) (by decide +kernel)
  walk_at "rd"
  refine ⟨by show 2 ≤ sizeLine; decide, fun bp01 hp => ?_⟩
  have be1 := Same.new (o := .tup [V.int 3, V.int 1]) hp
  have h_bp01 : upd b0 bp01 (.tup [V.int 3, V.int 1]) bp01 = some (.tup [V.int 3, V.int 1]) := upd_same
  generalize upd b0 bp01 (.tup [V.int 3, V.int 1]) = b1 at *
  clear hp
  have bf01 : RQP K b1 (.ref bp01) ((3 : Rat)) := rqp_of h_bp01 (by decide +kernel) (by decide +kernel)
  walk_at "rd"
  refine ⟨by show 2 ≤ sizeLine; decide, fun bl0 hp => ?_⟩
  have be2 := Same.new (o := .lst [V.ref bp00, V.ref bp01]) hp
  have h_bl0 : upd b1 bl0 (.lst [V.ref bp00, V.ref bp01]) bl0 = some (.lst [V.ref bp00, V.ref bp01]) := upd_same
  generalize upd b1 bl0 (.lst [V.ref bp00, V.ref bp01]) = b2 at *
  clear hp
  have bg0 : RL K (RQP K) b2 (.ref bl0) [(1 : Rat), (3 : Rat)] := RL.at h_bl0 (.cons (Up.up (be1.trans be2) bf00) (.cons (Up.up be2 bf01) .nil)) (by show 2 ≤ sizeLine; decide)
  walk_at "rd"
  refine ⟨by show 2 ≤ sizeLine; decide, fun bp10 hp => ?_⟩
  have be3 := Same.new (o := .tup [V.int 0, V.int 1]) hp
  have h_bp10 : upd b2 bp10 (.tup [V.int 0, V.int 1]) bp10 = some (.tup [V.int 0, V.int 1]) := upd_same
  generalize upd b2 bp10 (.tup [V.int 0, V.int 1]) = b3 at *
  clear hp
  have bf10 : RQP K b3 (.ref bp10) ((0 : Rat)) := rqp_of h_bp10 (by decide +kernel) (by decide +kernel)
  walk_at "rd"
  refine ⟨by show 2 ≤ sizeLine; decide, fun bp11 hp => ?_⟩
  have be4 := Same.new (o := .tup [V.int 1, V.int 4]) hp
  have h_bp11 : upd b3 bp11 (.tup [V.int 1, V.int 4]) bp11 = some (.tup [V.int 1, V.int 4]) := upd_same
  generalize upd b3 bp11 (.tup [V.int 1, V.int 4]) = b4 at *
  clear hp
  have bf11 : RQP K b4 (.ref bp11) (Rat.divInt 1 4) := rqp_of h_bp11 (by decide +kernel) (by decide +kernel)
  walk_at "rd"
  refine ⟨by show 2 ≤ sizeLine; decide, fun bl1 hp => ?_⟩
  have be5 := Same.new (o := .lst [V.ref bp10, V.ref bp11]) hp
  have h_bl1 : upd b4 bl1 (.lst [V.ref bp10, V.ref bp11]) bl1 = some (.lst [V.ref bp10, V.ref bp11]) := upd_same
  generalize upd b4 bl1 (.lst [V.ref bp10, V.ref bp11]) = b5 at *
  clear hp
  have bg1 : RL K (RQP K) b5 (.ref bl1) [(0 : Rat), Rat.divInt 1 4] := RL.at h_bl1 (.cons (Up.up (be4.trans be5) bf10) (.cons (Up.up be5 bf11) .nil)) (by show 2 ≤ sizeLine; decide)
  walk_at "rd"
  refine ⟨by show 2 ≤ sizeLine; decide, fun bm hp => ?_⟩
  have be6 := Same.new (o := .lst [V.ref bl0, V.ref bl1]) hp
  have h_bm : upd b5 bm (.lst [V.ref bl0, V.ref bl1]) bm = some (.lst [V.ref bl0, V.ref bl1]) := upd_same
  generalize upd b5 bm (.lst [V.ref bl0, V.ref bl1]) = b6 at *
  clear hp
  have bM : RL K (RL K (RQP K)) b6 (.ref bm) [[(1 : Rat), (3 : Rat)], [(0 : Rat), Rat.divInt 1 4]] := RL.at h_bm (.cons (bg0.up' (((be3.trans be4).trans be5).trans be6)) (.cons (bg1.up' be6) .nil)) (by show 2 ≤ sizeLine; decide)
  walk_at "rd"
  refine ⟨_, rfl, _, bM, M1_sm, fun v5 H9 e9 g5 => ?_⟩
  refine rd_eqX (ec_Mat T (by decide)) ((g4.up' ((((((be0.trans be1).trans be2).trans be3).trans be4).trans be5).trans be6)).up' e9) g5 fun H10 e10 => ?_
  rw [decide_eq_true M0_sq]
  exact k _ (((tot.trans ((((((be0.trans be1).trans be2).trans be3).trans be4).trans be5).trans be6)).trans e9).trans e10)
end
end LW
end
set_option Elab.async false
set_option linter.all false
set_option maxRecDepth 100000
set_option maxHeartbeats 0
namespace LW
open PySem PySem.Spec PyProof.Rows L2 Wo
/-- nothing is let out at all -/
theorem ok_cx0 {P : Program} {w : World} {K : PySem.W.Frag} {mg : Str → Option Value} {base : Heap} {k : Nat} {f : Addr} {fd : FuncData} {ps : List Str} {sp : Sp} (F : FnOk P w K mg base (CXW P w) k f fd ps sp) (h : ∀ vs H Q E, sp vs H Q E → sp vs H Q E0) :
    FnOk P w K mg base L2.CX0 k f fd ps sp := ⟨F.len, fun A outer s H args us vs Q E hr he hb hv hs => codeAny_mono (F.run A outer s H args us vs Q E0 hr he hb hv (h vs H Q E hs)) fun r s' z => by
  cases r with
  | ok fl => cases fl <;> exact z
  | error e =>
    obtain ⟨a, B, H', cls, d, _, _, _, _, _, _, _, h⟩ := (show CXW P w outer H s E0 e s' from z)
    exact h.elim⟩
theorem law_facts {P : Program} {w : World} {K : PySem.W.Frag} {h : Heap} {mg : Str → Option Value} {f : Addr} (X : K.In h) (G : h.Ns mainGlobals mg) (hfa : mg ("law" : Str) = some (.ref f)) (c : SaysX fs ds K) :
    ∃ fd : FuncData, (∀ (s : Shared) (v : Value), BindsTo s fd ⟨[v], []⟩ [("_law_script", v)]) ∧ ∀ base : Heap, FnOk P w K mg base L2.CX0 12 f fd ["_law_script"] (sp_law K) := by
  have T : Tx K mg := tx_of X G c
  have e := hfa.symm.trans T.G_law
  cases e
  obtain ⟨fd, F⟩ := T.D_law
  have b := FunD.bindsA (ps := ["_law_script"]) F fun _ _ _ _ _ _ us hl => match us, hl with | [_], _ => rfl
  exact ⟨fd, fun s v => b s [v] rfl, fun base => ok_cx0 (ok_law T F) fun vs H Q E h => h⟩
end LW
open PySem PySem.W PySem.Calls PyProof.Rows
theorem PySem.Challenge.cw_worthstead_k06_rows_turned_and_multiplie_holds : PySem.Challenge.rw_worthstead_k06_rows_turned_and_multiplie.Holds := by
  w_on; o_law
  refine HandSHeadRun.head_imp (r := OpenLaw.row PySem.Challenge.rw_worthstead_k06_rows_turned_and_multiplie) (q := LW.qv) (H := LW.hk) (ob := LW.ob) (M := 20000) (loose := LW.loose) (d := HandSHeadRun.topDef LW.R.prog 49) (kwd := []) LW.ob_eq LW.run
    (by kernel_rfl) (by kernel_rfl) (by kernel_rfl) (by rfl) (by first | assumption | decide +kernel) (by decide +kernel) ⟨rfl, rfl, rfl, rfl, rfl, by decide +kernel⟩ ?hw ?hc
  case hw => w_witness2
  case hc =>
    refine L2.walk_ofE (l := PySem.Challenge.rw_worthstead_k06_rows_turned_and_multiplie) (n := 63) (k := 12) (x := "_law_script") rfl (by decide) (by kernel_rfl) ⟨rfl, by decide, by decide⟩ ?F (CX := L2.CX0) (fun _ _ _ _ z => z)
    intro w mg fa h Y G hmg0
    obtain ⟨K, KX, c⟩ := Y
    have hmg : mg ("law" : PySem.Str) = some (.ref fa) := by
      have e : (HandSHeadRun.topDef LW.R.prog 49).name = ("law" : PySem.Str) := by kernel_rfl
      rw [← e]
      exact hmg0
    obtain ⟨fd, hb, hF⟩ := LW.law_facts (P := (PySem.Challenge.rw_worthstead_k06_rows_turned_and_multiplie).prog) (w := w) KX G hmg c
    exact ⟨K, fd, LW.sp_law K, KX, hb, fun H a ns hl _ hS => ⟨_, rfl, ns, ⟨a, _, rfl, hS, Wo.RAll.ints, by rw [List.length_map]; exact Nat.le_trans hl (by decide)⟩, fun _ _ => rfl⟩, fun base _ _ => hF base⟩
