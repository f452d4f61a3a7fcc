import PyProof.Rows.All
import Wide.All
import OpenK.AllK
import Wide.FinOn
import HandS.ForMost
import HandS.ForExc
import HandS.Slots
import HandS.SlotsOwn
import HandS.Star
import HandS.Wide
import HandS.Gcd
import HandS.IsInst
import HandS.FStr
import HandS.Flow
import HandS.ClsMeth
import HandS.TupAny
import HandS.Zip
import HandS.ExcSuper
import HandS.Head3
import HandS.HeadEnd
import HandS.HeadHook2
import HandS.OwnEq
import KE.KExcSuper
import KE.KSuper
import KE.KExcInit
import HandS.ExcInit
import HandS.TryMany
import PyProof.ExcBaseAll.IndexError
import PyProof.ExcBaseAll.ArithmeticError
import PyProof.ExcBaseAll.OverflowError
import PyProof.ExcBaseAll.ValueError
import HandS.ExcField
import HandS.ExcBuiltin
import KE.KOpsOwn
import HandS.CallRecv
import PyProof.InstNe
import PyProof.Conv_bool
import KE.KIntText
import KE.IntTextLaws
import KE.KCallOwn
import PyProof.Rows.Digits
import PyProof.StrBlock2
import PyProof.Rows.RegStrCode
import PyProof.Rows.StrBin
import HandS.Conv
import HandS.Lambda
import HandS.EndTab
import HandS.HeadWalk
import KE.KNestM
import HandS.TupMul
import PySem.Challenge.RW_worthstead_k00_ratios_in_lowest_terms
section
set_option Elab.async false
set_option linter.all false
set_option maxRecDepth 100000
set_option maxHeartbeats 4000000
/-! Wo, part A: promises by position, a def of the text as a callee, the head's facts. -/
namespace Wo
open PySem PySem.Spec PyProof.Rows L2

/-! ### promises by the number of values -/
def sp0 (b : Hp → VK → XK → Prop) : Sp := fun vs H Q E => vs = [] ∧ b H Q E
def sp1 (b : V → Hp → VK → XK → Prop) : Sp := fun vs H Q E => ∃ x, vs = [x] ∧ b x H Q E
def sp2 (b : V → V → Hp → VK → XK → Prop) : Sp := fun vs H Q E => ∃ x y, vs = [x, y] ∧ b x y H Q E
def sp3 (b : V → V → V → Hp → VK → XK → Prop) : Sp := fun vs H Q E => ∃ x y z, vs = [x, y, z] ∧ b x y z H Q E
def sp4 (b : V → V → V → V → Hp → VK → XK → Prop) : Sp := fun vs H Q E => ∃ x y z u, vs = [x, y, z, u] ∧ b x y z u H Q E
def sp5 (b : V → V → V → V → V → Hp → VK → XK → Prop) : Sp := fun vs H Q E => ∃ x y z u v, vs = [x, y, z, u, v] ∧ b x y z u v H Q E

/-! ### no exception is wished for -/
abbrev CXW (P : Program) (w : World) : CXT := L2.CX P w
theorem passF {X : Cx} : Passes (CXW X.prog X.w) X E0 := fun _ _ _ _ _ _ _ h => by
  obtain ⟨a, B, H', cls, d, _, _, _, _, _, _, _, h⟩ := h
  exact h.elim
theorem passF' {X : Cx} : ∀ (H : Hp) (s : Shared) (e : Value) (s' : Shared), CXW X.prog X.w X.stack H s E0 e s' → False := fun _ _ _ _ h => by
  obtain ⟨a, B, H', cls, d, _, _, _, _, _, _, _, h⟩ := h
  exact h.elim

/-! ### a def that is called by its name -/
/-- the module's name x holds a def that keeps the promise sp, by at most level k -/
def Cal (P : Program) (w : World) (K : PySem.W.Frag) (mg : Str → Option Value) (base : Heap) (k : Nat) (x : Str) (sp : Sp) : Prop :=
  ∃ f, mg x = some (.ref f) ∧ PySem.W.keepIn K (.ref f) = true ∧ FnR P w K mg base (CXW P w) k f sp
def tCallR (sp : Sp) (E : XK) (t : TA) : TE := fun σ H Q => t σ H fun vs H1 => sp vs H1 Q E
section
variable {X : Cx} {k j : Nat} {f : Addr} {sp : Sp} {E : XK} {x : Str} {p pos : Pos} {e : Expr} {es : List Expr} {t : TA}
theorem run_R {CX : CXT} {pins : List (Addr × Obj)} {σ : L2.St} {H : Hp} {s : Shared} {Q : VK} {us : List Value} {vs : List V} (F : FnR X.prog X.w X.K X.mg X.base CX k f sp) (hr : Room k X.A) (hx : Passes CX X E)
    (I : Inv X pins σ H s) (r : Vals vs us) (h : sp vs H Q E) : wpAny (model X.prog X.w) X.A (call (.ref f) us) (EP X pins σ Q) X.xe s :=
  wpAny_call (run_fnR F hr hx I r h)
theorem pe_callR (F : FnR X.prog X.w X.K X.mg X.base (CXW X.prog X.w) k f sp) (hr : Room k X.A) (hg : Gl X x) (hm : X.mg x = some (.ref f)) (hk : PySem.W.keepIn X.K (.ref f) = true) (hx : Passes (CXW X.prog X.w) X E)
    (ha : PA X (e :: es) t) (hdb : (x == ("__debug__" : Str)) = false) (he : starEach (e :: es) X.env = (false, eval e X.env) :: starEach es X.env) (hpl : (backTo pos (starEach es X.env)).any (·.1) = false) :
    PE X (.Call (.Name x p) (e :: es) [] pos) (tCallR sp E t) := by
  refine ⟨fun pins s σ H Q I h => ?_⟩
  refine wpAny_Call_Name_kw (ld_glob I hg hm ?_ hdb)
  refine PySem.W.callWith_K (h₀ := X.base) I.ok.mod.kin hk (thn (ha.run pos pins s σ H _ I h) fun us s1 ⟨vs, H1, I1, r, q⟩ => ⟨I1.kIn, ?_⟩) he hpl
  exact run_R F hr hx I1 r q
theorem pe_callR0 (F : FnR X.prog X.w X.K X.mg X.base (CXW X.prog X.w) k f sp) (hr : Room k X.A) (hg : Gl X x) (hm : X.mg x = some (.ref f)) (hk : PySem.W.keepIn X.K (.ref f) = true) (hx : Passes (CXW X.prog X.w) X E)
    (hdb : (x == ("__debug__" : Str)) = false) : PE X (.Call (.Name x p) [] [] pos) (tCallR sp E tNil) := by
  refine ⟨fun pins s σ H Q I h => ?_⟩
  refine wpAny_Call_Name_kw (ld_glob I hg hm ?_ hdb)
  exact PySem.W.callWith_K0 I.kIn hk (run_R (us := []) F hr hx I .nil h)
/-- f(e, ..), nothing is raised -/
theorem pc (c : Cal X.prog X.w X.K X.mg X.base k x sp) (hr : Room j X.A) (ha : PA X (e :: es) t) (hk : k ≤ j := by decide) (hg : Gl X x := by rfl) (hdb : (x == ("__debug__" : Str)) = false := by decide)
    (he : starEach (e :: es) X.env = (false, eval e X.env) :: starEach es X.env := by rfl) (hpl : (backTo pos (starEach es X.env)).any (·.1) = false := by rfl) : PE X (.Call (.Name x p) (e :: es) [] pos) (tCallR sp E0 t) := by
  obtain ⟨f, hm, kp, F⟩ := c
  exact pe_callR F (hr.mono hk) hg hm kp passF ha hdb he hpl
theorem pc0 (c : Cal X.prog X.w X.K X.mg X.base k x sp) (hr : Room j X.A) (hk : k ≤ j := by decide) (hg : Gl X x := by rfl) (hdb : (x == ("__debug__" : Str)) = false := by decide) : PE X (.Call (.Name x p) [] [] pos) (tCallR sp E0 tNil) := by
  obtain ⟨f, hm, kp, F⟩ := c
  exact pe_callR0 F (hr.mono hk) hg hm kp passF hdb
end
section
variable {P : Program} {w : World} {K : PySem.W.Frag} {mg : Str → Option Value} {base : Heap} {k : Nat} {x name qual : Str} {params : Arguments} {body : List Stmt} {scope : Scope} {f : Addr} {N ps : List Str} {sp : Sp}
/-- a def of the text as a promise by position -/
theorem fnR_of (F : ∃ fd, FunD K name qual params body scope [] [] f fd) (S : FnScope N ps scope)
    (hbind : ∀ (kV doc pm : Value) (an : Option Addr) (cdv ct : Value) (us : List Value), us.length = ps.length → bindArgs (PySem.W.fnOf name qual params body scope .none kV doc pm an cdv ct) ⟨us, []⟩ = pure (ps.zip us))
    (len : ∀ vs H Q E, sp vs H Q E → vs.length = ps.length)
    (hbody : ∀ (cdv : Value) (A : Around) (outer : List Env) (s : Shared) (H : Hp) (vs : List V) (Q : VK) (E : XK), Room k (A.deeper (envOfC qual scope s.heap.objs.size f cdv)) → sp vs H Q E →
      ∃ t, PSs (cxOf (CXW P w) P w K mg base N qual scope f cdv A outer s H E) body t ∧ t { nx := fun _ H' => Q .non H', rt := Q } (start N vs) H) : FnR P w K mg base (CXW P w) (k + 1) f sp := by
  obtain ⟨fd, F⟩ := F
  have G := FunD.ok (P := P) (w := w) (mg := mg) (base := base) (CX := CXW P w) F S len hbody
  have b := F.bindsN hbind
  refine (G.raw b .nil).imp fun vs H Q E h => ?_
  rw [List.append_nil]
  exact h
theorem cal_of (g : mg x = some (.ref f)) (F : ∃ fd, FunD K name qual params body scope [] [] f fd) (S : FnScope N ps scope)
    (hbind : ∀ (kV doc pm : Value) (an : Option Addr) (cdv ct : Value) (us : List Value), us.length = ps.length → bindArgs (PySem.W.fnOf name qual params body scope .none kV doc pm an cdv ct) ⟨us, []⟩ = pure (ps.zip us))
    (len : ∀ vs H Q E, sp vs H Q E → vs.length = ps.length)
    (hbody : ∀ (cdv : Value) (A : Around) (outer : List Env) (s : Shared) (H : Hp) (vs : List V) (Q : VK) (E : XK), Room k (A.deeper (envOfC qual scope s.heap.objs.size f cdv)) → sp vs H Q E →
      ∃ t, PSs (cxOf (CXW P w) P w K mg base N qual scope f cdv A outer s H E) body t ∧ t { nx := fun _ H' => Q .non H', rt := Q } (start N vs) H) : Cal P w K mg base (k + 1) x sp := by
  have kp : PySem.W.keepIn K (.ref f) = true := by
    obtain ⟨fd, F⟩ := F
    exact F.kp
  exact ⟨f, g, kp, fnR_of F S hbind len hbody⟩
end

/-! ### what the top leaves: addresses by paths, defs, facts -/
abbrev Pa := PySem.W.Frag → Addr
def gA (x : Str) : Pa := fun K => He.ga K x
def mA (x m : Str) : Pa := fun K => He.ma K (He.ga K x) m
/-- the def of a property, of a classmethod -/
def rA (T : String) (x m : Str) : Pa := fun K => match PySem.W.recIn K (mA x m K) T with
  | some (.ref g :: _) => g
  | _ => 0
structure DefX where
  ad : Pa
  name : Str
  qual : Str
  params : Arguments
  body : List Stmt
  scope : Scope
  dfl : List He.Dv := []
def fnX (K : PySem.W.Frag) (a : Addr) : He.FnW := match K.lookup a with
  | some ⟨_, _, .func fd, _⟩ => some (fd.name, fd.qualname, fd.params, fd.body, fd.scope, fd.globals, fd.closure, fd.builtins)
  | _ => none
def DefX.val (d : DefX) : He.FnW := some (d.name, d.qual, d.params, .stmts d.body, d.scope, mainGlobals, [], builtinsNs)
def DefX.dvs (K : PySem.W.Frag) (d : DefX) : List V := d.dfl.map (He.Dv.v K)
def DefX.ok (K : PySem.W.Frag) (d : DefX) : Bool := PySem.W.keepIn K (.ref (d.ad K)) && (match K.lookup (d.ad K) with
  | some ⟨_, _, .func fd, _⟩ => PySem.W.codeIn K fd.code d.qual && He.dflB K fd.defaults (d.dvs K)
  | _ => false)
theorem DefX.funD {K : PySem.W.Frag} {d : DefX} (e : fnX K (d.ad K) = d.val) (c : d.ok K = true) : ∃ fd, FunD K d.name d.qual d.params d.body d.scope (d.dvs K) [] (d.ad K) fd := by
  obtain ⟨kp, c2⟩ := He.ba c
  unfold fnX at e
  cases q : K.lookup (d.ad K) with
  | none =>
    rw [q] at c2
    cases c2
  | some o =>
    obtain ⟨oc, od, dt, osl⟩ := o
    rw [q] at c2 e
    cases dt with
    | func fd =>
      obtain ⟨n1, n2, n3, n4, n5, n6, n7, n8, n9, n10, n11, n12, n13, n14, n15⟩ := fd
      have e2 : (some (n1, n2, n3, n4, n5, n6, n7, n15) : He.FnW) = some (d.name, d.qual, d.params, .stmts d.body, d.scope, mainGlobals, [], builtinsNs) := e
      simp only [Option.some.injEq, Prod.mk.injEq] at e2
      obtain ⟨h1, h2, h3, h4, h5, h6, h7, h8⟩ := e2
      subst h1 h2 h3 h4 h5 h6 h7 h8
      have c3 : (PySem.W.codeIn K n13 d.qual && He.dflB K n8 (d.dvs K)) = true := c2
      obtain ⟨k1, k2⟩ := He.ba c3
      exact ⟨_, ⟨oc, od, n8, n9, n10, n11, n12, n13, n14, osl, rfl, q, k1, He.dflB_ok k2, .inl rfl⟩, kp⟩
    | _ => cases c2
abbrev AlX : Type := Bool × List He.FnW
def obsX (fs : List (PySem.W.Frag → Bool)) (ds : List DefX) (K : PySem.W.Frag) : AlX := ((fs.all fun f => f K) && ds.all fun d => d.ok K, ds.map fun d => fnX K (d.ad K))
def valX (ds : List DefX) : AlX := (true, ds.map DefX.val)
def SaysX (fs : List (PySem.W.Frag → Bool)) (ds : List DefX) (K : PySem.W.Frag) : Prop := obsX fs ds K = valX ds
def obsXG (n : Nat) (fs : List (PySem.W.Frag → Bool)) (ds : List DefX) (g : Addr → Option Obj) : AlX := obsX fs ds (He.frG g (He.asD g n))
def hookX (n : Nat) (fs : List (PySem.W.Frag → Bool)) (ds : List DefX) : PySem.W.Hook where
  α := AlX
  obs := fun s => obsXG n fs ds s.heap.get?
  val := fun _ => valX ds
  says := fun _ h => ∃ K : PySem.W.Frag, K.In h ∧ SaysX fs ds K
  of := fun _ _ e => ⟨_, He.frG_in, e⟩
  keeps := fun _ _ _ ⟨K, hK, c⟩ k => ⟨K, PySem.W.Frag.In.keeps hK k, c⟩
theorem obsXG_eq {n : Nat} {fs : List (PySem.W.Frag → Bool)} {ds : List DefX} {g : Addr → Option Obj} {s : Shared} (h : ∀ a, g a = s.heap.get? a) : obsXG n fs ds g = (hookX n fs ds).obs s := by
  have e : g = s.heap.get? := funext h
  rw [e] <;> rfl
section
variable {fs : List (PySem.W.Frag → Bool)} {ds : List DefX} {K : PySem.W.Frag}
theorem SaysX.fact (c : SaysX fs ds K) (i : Nat) {f : PySem.W.Frag → Bool} (h : fs[i]? = some f := by rfl) : f K = true := by
  have c1 := (He.ba (show ((fs.all fun f => f K) && ds.all fun d => d.ok K) = true from congrArg (fun z : AlX => z.1) c)).1
  exact List.all_eq_true.mp c1 f (List.mem_of_getElem? h)
theorem SaysX.def_ (c : SaysX fs ds K) (i : Nat) {d : DefX} (h : ds[i]? = some d := by rfl) : ∃ fd, FunD K d.name d.qual d.params d.body d.scope (d.dvs K) [] (d.ad K) fd := by
  have c2 := (He.ba (show ((fs.all fun f => f K) && ds.all fun d => d.ok K) = true from congrArg (fun z : AlX => z.1) c)).2
  have e : ds.map (fun d => fnX K (d.ad K)) = ds.map DefX.val := congrArg (fun z : AlX => z.2) c
  have e2 : (ds.map fun d => fnX K (d.ad K))[i]? = (ds.map DefX.val)[i]? := by rw [e]
  rw [List.getElem?_map, List.getElem?_map, h] at e2
  exact DefX.funD (Option.some.inj e2) (List.all_eq_true.mp c2 d (List.mem_of_getElem? h))
end
/-! facts: each a Bool of the frag, with what it says -/
section
open PySem.W
def fGlo (x : Str) (K : Frag) : Bool := He.eqO (nsIn K mainGlobals x) (some (some (.ref (He.ga K x))))
def fFree (x : Str) (K : Frag) : Bool := He.eqO (nsIn K mainGlobals x) (some none)
def fBlt (x : Str) (b : String) (K : Frag) : Bool := He.eqO (nsIn K mainGlobals x) (some (some (.builtin b)))
def fInt (x : Str) (i : Int) (K : Frag) : Bool := match nsIn K mainGlobals x with
  | some (some (.int j _)) => decide (j = i)
  | _ => false
def fStr (x z : Str) (K : Frag) : Bool := match nsIn K mainGlobals x with
  | some (some (.str y _)) => decide (y = z)
  | _ => false
variable {K : Frag} {h : Heap} {mg : Str → Option Value}
theorem fGlo_ok (X : K.In h) (G : h.Ns mainGlobals mg) {x : Str} (c : fGlo x K = true) : mg x = some (.ref (gA x K)) := mg_of X G (He.eqO_ok c)
theorem fFree_ok (X : K.In h) (G : h.Ns mainGlobals mg) {x : Str} (c : fFree x K = true) : mg x = none := mg_none_of X G (He.eqO_ok c)
theorem fBlt_ok (X : K.In h) (G : h.Ns mainGlobals mg) {x : Str} {b : String} (c : fBlt x b K = true) : mg x = some (.builtin b) := mg_of X G (He.eqO_ok c)
theorem fInt_ok (X : K.In h) (G : h.Ns mainGlobals mg) {x : Str} {i : Int} (c : fInt x i K = true) : ∃ t, mg x = some (.int i t) := He.int_ok X G (x := x) (i := i) c
/-- a class with two slots -/
structure Sl2 (K : Frag) (C : Addr) (f0 f1 : Str) (fi : Addr) : Prop where
  cl : SlX.SCls K C
  s0 : ∃ p, SlX.Slot1 K C f0 p 0
  s1 : ∃ p, SlX.Slot1 K C f1 p 1
  si : SlX.SIsi K C
  make : Mk K C fi
  cs : isClsIn K C = true
  ty : typeIn K (.ref C) = some (.type "type")
def bSlot (K : Frag) (C : Addr) (f : Str) (i : Nat) : Bool := match findIn K (.ref C) f with
  | some (some (.ref p)) => decide (specialIn K (.ref p) "__get__" = some (some (.builtin "member_descriptor.__get__"))) && (decide (takesIn K (.ref p) = some true) && (decide (typeIn K (.ref p) = some (.type "member_descriptor")) && (decide (slotIn K p C = some i) && decide (i < 1000))))
  | _ => false
theorem bSlot_ok {C : Addr} {f : Str} {i : Nat} (c : bSlot K C f i = true) : ∃ p, SlX.Slot1 K C f p i := by
  unfold bSlot at c
  split at c
  · rename_i p e
    obtain ⟨c1, c⟩ := He.ba c
    obtain ⟨c2, c⟩ := He.ba c
    obtain ⟨c3, c⟩ := He.ba c
    obtain ⟨c4, c5⟩ := He.ba c
    exact ⟨p, e, of_decide_eq_true c1, of_decide_eq_true c2, of_decide_eq_true c3, of_decide_eq_true c4, of_decide_eq_true c5⟩
  · cases c
def bMk (K : Frag) (C fi : Addr) : Bool := makesIn K C && (He.eqO (findIn K (.ref C) "__init__") (some (some (.ref fi))) && (isFn K (.ref fi) && keepIn K (.ref C)))
theorem bMk_ok {C fi : Addr} (c : bMk K C fi = true) : Mk K C fi := by
  obtain ⟨c1, c⟩ := He.ba c
  obtain ⟨c2, c⟩ := He.ba c
  obtain ⟨c3, c4⟩ := He.ba c
  exact ⟨c1, He.eqO_ok c2, c3, c4⟩
def fSl2 (x f0 f1 : Str) (K : Frag) : Bool :=
  plainGet K (gA x K) Str.empty && (isClsIn K (gA x K) && (plainOver K (gA x K) && (He.eqO (findIn K (.ref (gA x K)) "__setattr__") (some (some (.builtin "object.__setattr__"))) &&
  (bSlot K (gA x K) f0 0 && (bSlot K (gA x K) f1 1 && (bMk K (gA x K) (mA x "__init__" K) &&
  (He.eqO (findIn K (.ref (gA x K)) "__class__") (some (some (.builtin "object.__class__"))) && (He.eqO (specialIn K (.builtin "object.__class__") "__get__") (some (some (.builtin "getset_descriptor.__get__"))) &&
  (decide (takesIn K (.builtin "object.__class__") = some true) && (decide (mroIn K (gA x K) (.type "object") = some true) && decide (typeIn K (.ref (gA x K)) = some (.type "type"))))))))))))
theorem fSl2_ok {x f0 f1 : Str} (c : fSl2 x f0 f1 K = true) : Sl2 K (gA x K) f0 f1 (mA x "__init__" K) := by
  obtain ⟨c1, c⟩ := He.ba c
  obtain ⟨c2, c⟩ := He.ba c
  obtain ⟨c3, c⟩ := He.ba c
  obtain ⟨c4, c⟩ := He.ba c
  obtain ⟨c5, c⟩ := He.ba c
  obtain ⟨c6, c⟩ := He.ba c
  obtain ⟨c7, c⟩ := He.ba c
  obtain ⟨c8, c⟩ := He.ba c
  obtain ⟨c9, c⟩ := He.ba c
  obtain ⟨c10, c⟩ := He.ba c
  obtain ⟨c11, c12⟩ := He.ba c
  exact ⟨⟨c1, c2, c3, He.eqO_ok c4⟩, bSlot_ok c5, bSlot_ok c6, ⟨He.eqO_ok c8, He.eqO_ok c9, of_decide_eq_true c10, of_decide_eq_true c11⟩, bMk_ok c7, c2, of_decide_eq_true c12⟩
/-- isinstance(a value of the type t, the class named x) -/
def fKit (t : Frag → Value) (x : Str) (b : Bool) (K : Frag) : Bool := decide (kitOne K (t K) (.ref (gA x K)) = some b)
theorem fKit_ok {t : Frag → Value} {x : Str} {b : Bool} (c : fKit t x b K = true) : kitOne K (t K) (.ref (gA x K)) = some b := of_decide_eq_true c
/-- the class x has the def m of the text -/
def fOwn (x m : Str) (K : Frag) : Bool := He.eqO (findIn K (.ref (gA x K)) m) (some (some (.ref (mA x m K)))) && (isFn K (.ref (mA x m K)) && (keepIn K (.ref (mA x m K)) && selfFirst K (gA x K)))
structure OwnM (K : Frag) (C : Addr) (m : Str) (f : Addr) : Prop where
  at_ : findIn K (.ref C) m = some (some (.ref f))
  fn : isFn K (.ref f) = true
  kp : keepIn K (.ref f) = true
  sf : selfFirst K C = true
theorem fOwn_ok {x m : Str} (c : fOwn x m K = true) : OwnM K (gA x K) m (mA x m K) := by
  obtain ⟨c1, c⟩ := He.ba c
  obtain ⟨c2, c⟩ := He.ba c
  obtain ⟨c3, c4⟩ := He.ba c
  exact ⟨He.eqO_ok c1, c2, c3, c4⟩
/-- a name of the class x that is not there -/
def fLack (x m : Str) (K : Frag) : Bool := He.eqO (findIn K (.ref (gA x K)) m) (some none)
theorem fLack_ok {x m : Str} (c : fLack x m K = true) : findIn K (.ref (gA x K)) m = some none := He.eqO_ok c
/-- a property of the class x -/
structure PropM (K : Frag) (C : Addr) (m : Str) (g : Addr) : Prop where
  ex : ∃ p, findIn K (.ref C) m = some (some (.ref p)) ∧ specialIn K (.ref p) "__get__" = some (some (.builtin "property.__get__")) ∧ takesIn K (.ref p) = some true ∧ ∃ rest, recIn K p "property" = some (.ref g :: rest)
def fProp (x m : Str) (K : Frag) : Bool := He.eqO (findIn K (.ref (gA x K)) m) (some (some (.ref (mA x m K)))) && (He.eqO (specialIn K (.ref (mA x m K)) "__get__") (some (some (.builtin "property.__get__"))) && (decide (takesIn K (.ref (mA x m K)) = some true) &&
  (match recIn K (mA x m K) "property" with
    | some (.ref g :: _) => decide (g = rA "property" x m K)
    | _ => false)))
theorem fProp_ok {x m : Str} (c : fProp x m K = true) : PropM K (gA x K) m (rA "property" x m K) := by
  obtain ⟨c1, c⟩ := He.ba c
  obtain ⟨c2, c⟩ := He.ba c
  obtain ⟨c3, c4⟩ := He.ba c
  refine ⟨_, He.eqO_ok c1, He.eqO_ok c2, of_decide_eq_true c3, ?_⟩
  split at c4
  · rename_i g rest e
    have eg : g = rA "property" x m K := of_decide_eq_true c4
    exact ⟨rest, by rw [e, eg]⟩
  · cases c4
end
end Wo
end
section
set_option Elab.async false
set_option linter.all false
set_option maxRecDepth 100000
set_option maxHeartbeats 4000000
/-! Wo, part B: what a value stands for; growing heaps; a list in the making hidden. -/
namespace Wo
open PySem PySem.Spec PyProof.Rows L2

/-! ### relations between values and data, that stay when the heap grows -/
abbrev Rl (α : Type) := Hp → V → α → Prop
class Up {α : Type} (R : Rl α) : Prop where
  up : ∀ {H H' : Hp} {v : V} {a : α}, Same H H' → R H v a → R H' v a
def RI : Rl Int := fun _ v i => v = .int i
def RB : Rl Bool := fun _ v b => v = .bl b
def RS : Rl Str := fun _ v z => v = .str z
/-- any value, kept as it is -/
def RV : Rl V := fun _ v u => v = u
instance : Up RI := ⟨fun _ h => h⟩
instance : Up RB := ⟨fun _ h => h⟩
instance : Up RS := ⟨fun _ h => h⟩
instance : Up RV := ⟨fun _ h => h⟩
theorem Same.seqT {K : PySem.W.Frag} {H H' : Hp} {a : Addr} {xs : List V} (e : Same H H') (h : SqT K H a xs) : SqT K H' a xs := by
  rcases h with (h | ⟨o, h⟩) | h
  · exact .inl (.inl (e _ _ h))
  · exact .inl (.inr ⟨o, e _ _ h⟩)
  · exact .inr h
/-- all of them -/
def RAll {α : Type} (R : Rl α) (H : Hp) (vs : List V) (as : List α) : Prop := Paired (R H) vs as
theorem RAll.up {α : Type} {R : Rl α} [Up R] {H H' : Hp} {vs : List V} {as : List α} (e : Same H H') (h : RAll R H vs as) : RAll R H' vs as := Paired.mono (fun _ _ q => Up.up e q) h
theorem RAll.get {α : Type} {R : Rl α} {H : Hp} : ∀ {vs : List V} {as : List α} {i : Nat} {v : V}, RAll R H vs as → vs[i]? = some v → ∃ a, as[i]? = some a ∧ R H v a
  | _, _, _, _, .nil, e => by simp at e
  | _, _, 0, _, .cons h _, e => by simp at e; subst e; exact ⟨_, rfl, h⟩
  | _, _, i + 1, _, .cons _ t, e => by
    obtain ⟨a, h1, h2⟩ := RAll.get (i := i) t (by simpa using e)
    exact ⟨a, by simpa using h1, h2⟩
theorem RAll.getR {α : Type} {R : Rl α} {H : Hp} : ∀ {vs : List V} {as : List α} {i : Nat} {a : α}, RAll R H vs as → as[i]? = some a → ∃ v, vs[i]? = some v ∧ R H v a
  | _, _, _, _, .nil, e => by simp at e
  | _, _, 0, _, .cons h _, e => by simp at e; subst e; exact ⟨_, rfl, h⟩
  | _, _, i + 1, _, .cons _ t, e => by
    obtain ⟨a, h1, h2⟩ := RAll.getR (i := i) t (by simpa using e)
    exact ⟨a, by simpa using h1, h2⟩
theorem RAll.len {α : Type} {R : Rl α} {H : Hp} {vs : List V} {as : List α} (h : RAll R H vs as) : vs.length = as.length := Paired.length h
theorem RAll.snoc {α : Type} {R : Rl α} {H : Hp} {vs : List V} {as : List α} {v : V} {a : α} (h : RAll R H vs as) (q : R H v a) : RAll R H (vs ++ [v]) (as ++ [a]) := Paired.snoc h q
theorem RAll.append {α : Type} {R : Rl α} {H : Hp} : ∀ {vs ws : List V} {as bs : List α}, RAll R H vs as → RAll R H ws bs → RAll R H (vs ++ ws) (as ++ bs)
  | _, _, _, _, .nil, h => h
  | _, _, _, _, .cons a t, h => .cons a (RAll.append t h)
theorem RAll.take {α : Type} {R : Rl α} {H : Hp} : ∀ {vs : List V} {as : List α} (n : Nat), RAll R H vs as → RAll R H (vs.take n) (as.take n)
  | _, _, 0, _ => .nil
  | _, _, _ + 1, .nil => .nil
  | _, _, n + 1, .cons h t => .cons h (RAll.take n t)
theorem RAll.drop {α : Type} {R : Rl α} {H : Hp} : ∀ {vs : List V} {as : List α} (n : Nat), RAll R H vs as → RAll R H (vs.drop n) (as.drop n)
  | _, _, 0, h => h
  | _, _, _ + 1, .nil => .nil
  | _, _, n + 1, .cons _ t => RAll.drop n t
theorem RAll.ints {H : Hp} : ∀ {ns : List Int}, RAll RI H (ns.map V.int) ns
  | [] => .nil
  | _ :: _ => .cons rfl RAll.ints
theorem RAll.of_ints {H : Hp} : ∀ {vs : List V} {ns : List Int}, RAll RI H vs ns → vs = ns.map V.int
  | _, _, .nil => rfl
  | _, _, .cons h t => by
    rw [show _ = V.int _ from h, RAll.of_ints t]
    rfl
theorem RAll.of_strs {H : Hp} : ∀ {vs : List V} {ns : List Str}, RAll RS H vs ns → vs = ns.map V.str
  | _, _, .nil => rfl
  | _, _, .cons h t => by
    rw [show _ = V.str _ from h, RAll.of_strs t]
    rfl
theorem RAll.of_bls {H : Hp} : ∀ {vs : List V} {ns : List Bool}, RAll RB H vs ns → vs = ns.map V.bl
  | _, _, .nil => rfl
  | _, _, .cons h t => by
    rw [show _ = V.bl _ from h, RAll.of_bls t]
    rfl
/-- a tuple of such -/
def RT (K : PySem.W.Frag) {α : Type} (R : Rl α) : Rl (List α) := fun H v as => ∃ p vs, v = .ref p ∧ SqT K H p vs ∧ RAll R H vs as ∧ vs.length ≤ sizeLine
/-- a list of such -/
def RL (K : PySem.W.Frag) {α : Type} (R : Rl α) : Rl (List α) := fun H v as => ∃ p vs, v = .ref p ∧ SqL K H p vs ∧ RAll R H vs as ∧ vs.length ≤ sizeLine
/-- a pair -/
def RP (K : PySem.W.Frag) {α β : Type} (R : Rl α) (S : Rl β) : Rl (α × β) := fun H v ab => ∃ p x y, v = .ref p ∧ SqT K H p [x, y] ∧ R H x ab.1 ∧ S H y ab.2
instance {K : PySem.W.Frag} {α : Type} {R : Rl α} [Up R] : Up (RT K R) := ⟨fun e ⟨p, vs, a, b, c, d⟩ => ⟨p, vs, a, Same.seqT e b, c.up e, d⟩⟩
instance {K : PySem.W.Frag} {α : Type} {R : Rl α} [Up R] : Up (RL K R) := ⟨fun e ⟨p, vs, a, b, c, d⟩ => ⟨p, vs, a, e.seq b, c.up e, d⟩⟩
instance {K : PySem.W.Frag} {α β : Type} {R : Rl α} {S : Rl β} [Up R] [Up S] : Up (RP K R S) := ⟨fun e ⟨p, x, y, a, b, c, d⟩ => ⟨p, x, y, a, Same.seqT e b, Up.up e c, Up.up e d⟩⟩
/-- an instance of a class with two slots, in the order of their names -/
def Ob2 (C : Addr) (H : Hp) (v x y : V) : Prop := ∃ a dx, v = .ref a ∧ SlX.Slt H a C dx [some x, some y]
theorem Slt.up {H H' : Hp} {a C dx : Addr} {vs : List (Option V)} (e : Same H H') (h : SlX.Slt H a C dx vs) : SlX.Slt H' a C dx vs := by
  rcases h with ⟨h1, h2⟩ | ⟨h1, h2⟩
  · exact .inl ⟨e _ _ h1, h2⟩
  · exact .inr ⟨e _ _ h1, e _ _ h2⟩
theorem Ob2.up {C : Addr} {H H' : Hp} {v x y : V} (e : Same H H') (h : Ob2 C H v x y) : Ob2 C H' v x y := by
  obtain ⟨a, dx, h1, h2⟩ := h
  exact ⟨a, dx, h1, Slt.up e h2⟩
/-- a ratio: the bottom stands ahead of the top -/
def RQ (C : Addr) : Rl Rat := fun H v q => Ob2 C H v (.int (q.den : Int)) (.int q.num)
instance {C : Addr} : Up (RQ C) := ⟨fun e h => Ob2.up e h⟩
/-- the same, but the top is told first -/
def RTB (C : Addr) : Rl (Int × Int) := fun H v q => Ob2 C H v (.int q.2) (.int q.1)
instance {C : Addr} : Up (RTB C) := ⟨fun e h => Ob2.up e h⟩

theorem Same.new {H : Hp} {p : Addr} {o : HO} (h : H p = none) : Same H (upd H p o) := fun b u e => by
  rw [upd_ne (ne_of_none e h)]
  exact e
theorem RT.mk {K : PySem.W.Frag} {α : Type} {R : Rl α} [Up R] {H : Hp} {p : Addr} {vs : List V} {as : List α} (hp : H p = none) (h : RAll R H vs as) (hz : vs.length ≤ sizeLine) : RT K R (upd H p (.tup vs)) (.ref p) as :=
  ⟨p, vs, rfl, .inl (.inl upd_same), h.up (Same.new hp), hz⟩
theorem RL.mk {K : PySem.W.Frag} {α : Type} {R : Rl α} [Up R] {H : Hp} {p : Addr} {vs : List V} {as : List α} (hp : H p = none) (h : RAll R H vs as) (hz : vs.length ≤ sizeLine) : RL K R (upd H p (.lst vs)) (.ref p) as :=
  ⟨p, vs, rfl, .inl (.inl upd_same), h.up (Same.new hp), hz⟩
theorem RP.mk {K : PySem.W.Frag} {α β : Type} {R : Rl α} {S : Rl β} [Up R] [Up S] {H : Hp} {p : Addr} {x y : V} {a : α} {b : β} (hp : H p = none) (h1 : R H x a) (h2 : S H y b) : RP K R S (upd H p (.tup [x, y])) (.ref p) (a, b) :=
  ⟨p, x, y, rfl, .inl (.inl upd_same), Up.up (Same.new hp) h1, Up.up (Same.new hp) h2⟩

/-! ### a list in the making, hidden while something else is reckoned -/
def hid (D : Addr) (H : Hp) : Hp := fun b => if b = D then none else H b
theorem hid_same {D : Addr} {H : Hp} : hid D H D = none := if_pos rfl
theorem hid_ne {D b : Addr} {H : Hp} (h : b ≠ D) : hid D H b = H b := if_neg h
theorem hid_some {D b : Addr} {H : Hp} {o : HO} (h : hid D H b = some o) : b ≠ D ∧ H b = some o := by
  by_cases e : b = D
  · rw [e, hid_same] at h
    cases h
  · rw [hid_ne e] at h
    exact ⟨e, h⟩
theorem hid_upd {D : Addr} {H : Hp} {o : HO} (h : H D = none) : hid D (upd H D o) = H := by
  funext b
  by_cases e : b = D
  · rw [e, hid_same, h]
  · rw [hid_ne e, upd_ne e]
theorem upd_hid {D : Addr} {H : Hp} {o : HO} (h : H D = some o) : upd (hid D H) D o = H := by
  funext b
  by_cases e : b = D
  · rw [e, upd_same, h]
  · rw [upd_ne e, hid_ne e]
theorem Same.hid {D : Addr} {H H' : Hp} (e : Same H H') (h : H D = none) : Same H (Wo.hid D H') := fun b o q => by
  have n : b ≠ D := ne_of_none q h
  rw [hid_ne n]
  exact e b o q
section
variable {X : Cx} {pins : List (Addr × Obj)} {σ : L2.St} {H H' : Hp} {s s' : Shared} {D : Addr} {xs : List V}
theorem inv_hid (I : Inv X pins σ H s) (h : H D = some (.lst xs)) {its : List Value} {n : Nat} (e : s.heap.get? D = some { cls := .type "list", data := .seq its.toArray n }) :
    Inv X ((D, { cls := .type "list", data := .seq its.toArray n }) :: pins) σ (hid D H) s := by
  have hn : ∀ b, H b = none → hid D H b = none := fun b q => by
    by_cases z : b = D
    · rw [z, hid_same]
    · rw [hid_ne z]
      exact q
  have nd : ∀ b o, H b = some o → o ≠ .lst xs → hid D H b = some o := fun b o q z => by
    have w : b ≠ D := ne_of q h z
    rw [hid_ne w]
    exact q
  refine ⟨I.ok, I.os, I.bare, ?_, I.loc, I.cell, hn _ I.free, fun x c q => hn _ (I.freeC x c q), fun p hp => ?_, fun b o q => ?_, I.len⟩
  · have B := I.base
    refine ⟨B.keep, B.slot, fun b o q z w => hn _ (B.free b o q z w), B.there, fun b ys q => nd _ _ (B.tups b ys q) (by intro z; cases z), fun b o u q => nd _ _ (B.frzs b o u q) (by intro z; cases z), fun b ps q => ?_⟩
    obtain ⟨more, z⟩ := B.tbls b ps q
    exact ⟨more, nd _ _ z (by intro z; cases z)⟩
  · rcases List.mem_append.mp hp with q | q
    · obtain ⟨a, b, c⟩ := I.pin p (List.mem_append_left _ q)
      exact ⟨a, hn _ b, c⟩
    · rcases List.mem_cons.mp q with q | q
      · subst q
        refine ⟨e, hid_same, fun z => ?_, fun z => ?_, fun v z => by cases z⟩
        · have w : D = X.env.locals := z
          rw [w, I.free] at h
          cases h
        · have w : D ∈ frs X.stack := by
            rcases I.ok.stk with r | ⟨r, _⟩
            · rw [r]
              exact z
            · rw [r]
              exact (by
                unfold frs
                rw [List.filterMap_cons]
                split
                · exact z
                · exact List.mem_cons_of_mem _ z)
          rw [I.stkFree D w] at h
          cases h
      · obtain ⟨a, b, c⟩ := I.pin p (List.mem_append_right _ q)
        exact ⟨a, hn _ b, c⟩
  · obtain ⟨nb, q⟩ := hid_some q
    refine (I.hok b o q).stay (fun c u hc z => z) (fun c z => nd _ _ z (by intro z; cases z)) fun c ys z => nd _ _ z (by intro z; cases z)
theorem inv_unhid (I0 : Inv X pins σ H s) (h : H D = some (.lst xs)) {its : List Value} {n : Nat} (r : Vals xs its) (hz : xs.length ≤ sizeLine)
    (I : Inv X ((D, { cls := .type "list", data := .seq its.toArray n }) :: pins) σ H' s') : Inv X pins σ (upd H' D (.lst xs)) s' ∧ H' D = none := by
  obtain ⟨e, hd, hl, _, _⟩ := I.pin (D, { cls := .type "list", data := .seq its.toArray n }) (List.mem_append_right _ List.mem_cons_self)
  have hd : H' D = none := hd
  refine ⟨⟨I.ok, I.os, I.bare, ?_, I.loc, I.cell, ?_, fun x c q => ?_, fun p hp => ?_, fun b o q => ?_, I.len⟩, hd⟩
  · have B := I.base
    have B0 := I0.base
    have nd : ∀ b o, H' b = some o → upd H' D (.lst xs) b = some o := fun b o q => by
      rw [upd_ne (ne_of_none q hd)]
      exact q
    refine ⟨B.keep, B.slot, fun b o q z w => ?_, B.there, fun b ys q => nd _ _ (B.tups b ys q), fun b o u q => nd _ _ (B.frzs b o u q), fun b ps q => ?_⟩
    · by_cases y : b = D
      · subst y
        rw [B0.free b o q z w] at h
        cases h
      · rw [upd_ne y]
        exact B.free b o q z w
    · obtain ⟨more, z⟩ := B.tbls b ps q
      exact ⟨more, nd _ _ z⟩
  · rw [upd_ne (fun z => hl z.symm)]
    exact I.free
  · by_cases y : c = D
    · subst y
      have := I0.freeC x c q
      rw [this] at h
      cases h
    · rw [upd_ne y]
      exact I.freeC x c q
  · rcases List.mem_append.mp hp with q | q
    · obtain ⟨a, b, c⟩ := I.pin p (List.mem_append_left _ q)
      have y : p.1 ≠ D := fun y => by
        have := (I0.pin p hp).2.1
        rw [y, h] at this
        cases this
      exact ⟨a, by rw [upd_ne y]; exact b, c⟩
    · obtain ⟨a, b, c⟩ := I.pin p (List.mem_append_right _ (List.mem_cons_of_mem _ q))
      have y : p.1 ≠ D := fun y => by
        have := (I0.pin p hp).2.1
        rw [y, h] at this
        cases this
      exact ⟨a, by rw [upd_ne y]; exact b, c⟩
  · by_cases y : b = D
    · subst y
      rw [upd_same] at q
      cases q
      exact ⟨hz, its, n, r, e⟩
    · rw [upd_ne y] at q
      refine (I.hok b o q).stay (fun c u hc z => z) (fun c z => ?_) fun c ys z => ?_
      · rw [upd_ne (ne_of_none z hd)]
        exact z
      · rw [upd_ne (ne_of_none z hd)]
        exact z
/-- the same expression, reckoned while the list at D is hidden -/
def tHid (te : TE) : TE := fun σ H Q => ∃ (D : Addr) (xs : List V), H D = some (.lst xs) ∧ te σ (hid D H) fun v H' => H' D = none → Q v (upd H' D (.lst xs))
theorem pe_hid {e : Expr} {te : TE} (h : PE X e te) : PE X e (tHid te) := by
  refine ⟨fun pins s σ H Q I hq => ?_⟩
  obtain ⟨D, xs, hD, q⟩ := hq
  obtain ⟨hz, its, n, r, e⟩ := (show ObjOk X.prog X.w H s.heap D (.lst xs) from I.hok D _ hD)
  refine thn (h.run _ s σ _ _ (inv_hid I hD e) q) fun u s1 ⟨v, H1, I1, rv, k⟩ => ?_
  obtain ⟨I2, hn⟩ := inv_unhid I hD r hz I1
  exact ⟨v, _, I2, rv, k hn⟩
/-- the same test -/
def tHidT (tt : TT) : TT := fun σ H Q => ∃ (D : Addr) (xs : List V), H D = some (.lst xs) ∧ tt σ (hid D H) fun b H' => H' D = none → Q b (upd H' D (.lst xs))
theorem pt_hid {e : Expr} {tt : TT} (h : PT X e tt) : PT X e (tHidT tt) := by
  refine ⟨fun pins s σ H Q I hq => ?_⟩
  obtain ⟨D, xs, hD, q⟩ := hq
  obtain ⟨hz, its, n, r, e⟩ := (show ObjOk X.prog X.w H s.heap D (.lst xs) from I.hok D _ hD)
  refine thn (h.run _ s σ _ _ (inv_hid I hD e) q) fun b s1 ⟨H1, I1, k⟩ => ?_
  obtain ⟨I2, hn⟩ := inv_unhid I hD r hz I1
  exact ⟨_, I2, k hn⟩
theorem pts_hid {es : List Expr} {tt : TT} (h : PTs X es tt) : PTs X es (tHidT tt) := by
  refine ⟨fun pins s σ H Q I hq => ?_⟩
  obtain ⟨D, xs, hD, q⟩ := hq
  obtain ⟨hz, its, n, r, e⟩ := (show ObjOk X.prog X.w H s.heap D (.lst xs) from I.hok D _ hD)
  refine thn (h.run _ s σ _ _ (inv_hid I hD e) q) fun b s1 ⟨H1, I1, k⟩ => ?_
  obtain ⟨I2, hn⟩ := inv_unhid I hD r hz I1
  exact ⟨_, I2, k hn⟩
end
end Wo
end
section
set_option Elab.async false
set_option linter.all false
set_option maxRecDepth 100000
set_option maxHeartbeats 4000000
/-! Wo, part C: walks over data; comprehensions as maps; loops by an invariant. -/
namespace Wo
open PySem PySem.Spec PyProof.Rows L2

/-- J walks over the data as, each item as R says, while the heap only grows -/
structure Wk {α : Type} (J : It) (H0 : Hp) (R : Rl α) (as : List α) : Prop where
  go : ∀ i H, Same H0 H → i < as.length → J.go i H
  stop : ∀ H, Same H0 H → J.stop as.length H
  yld : ∀ i H x H' a, Same H0 H → as[i]? = some a → J.yld i H x H' → Same H H' ∧ R H' x a
  yldD : ∀ i G D o x H' a, Same H0 G → G D = none → as[i]? = some a → J.yld i (upd G D o) x H' → ∃ G', Same G G' ∧ G' D = none ∧ H' = upd G' D o ∧ R G' x a
section
variable {K : PySem.W.Frag} {α β : Type} {R : Rl α} {S : Rl β} {H : Hp}
theorem wk_list [Up R] {a : Addr} {as : List α} (h : RL K R H (.ref a) as) : Wk (Itl K a) H R as := by
  obtain ⟨p, vs, e, hs, hr, hz⟩ := h
  cases e
  have hl := hr.len
  refine ⟨fun i H' s hi => ?_, fun H' s => ⟨vs, s.seq hs, by omega⟩, fun i H' x H'' b s hb hy => ?_, fun i G D o x H'' b s hD hb hy => ?_⟩
  · have hi' : i < vs.length := by omega
    exact ⟨vs, vs[i], s.seq hs, by simp [hi']⟩
  · obtain ⟨e, y⟩ := hy
    rw [e]
    have y := y vs (s.seq hs)
    obtain ⟨c, hc, rc⟩ := hr.get y
    rw [hb] at hc
    cases hc
    exact ⟨Same.refl _, Up.up s rc⟩
  · obtain ⟨e, y⟩ := hy
    have y := y vs ((s.trans (Same.new hD)).seq hs)
    obtain ⟨c, hc, rc⟩ := hr.get y
    rw [hb] at hc
    cases hc
    exact ⟨G, Same.refl _, hD, e, Up.up s rc⟩
theorem wk_tup [Up R] {a : Addr} {as : List α} (h : RT K R H (.ref a) as) : Wk (Itt K a) H R as := by
  obtain ⟨p, vs, e, hs, hr, hz⟩ := h
  cases e
  have hl := hr.len
  refine ⟨fun i H' s hi => ?_, fun H' s => ⟨vs, Same.seqT s hs, by omega⟩, fun i H' x H'' b s hb hy => ?_, fun i G D o x H'' b s hD hb hy => ?_⟩
  · have hi' : i < vs.length := by omega
    exact ⟨vs, vs[i], Same.seqT s hs, by simp [hi']⟩
  · obtain ⟨e, y⟩ := hy
    rw [e]
    have y := y vs (Same.seqT s hs)
    obtain ⟨c, hc, rc⟩ := hr.get y
    rw [hb] at hc
    cases hc
    exact ⟨Same.refl _, Up.up s rc⟩
  · obtain ⟨e, y⟩ := hy
    have y := y vs (Same.seqT (s.trans (Same.new hD)) hs)
    obtain ⟨c, hc, rc⟩ := hr.get y
    rw [hb] at hc
    cases hc
    exact ⟨G, Same.refl _, hD, e, Up.up s rc⟩
/-- the rgI lo, lo + 1, .. -/
def rgI (lo : Int) (n : Nat) : List Int := (List.range n).map fun i => lo + (i : Nat)
theorem rgI_len (lo : Int) (n : Nat) : (rgI lo n).length = n := by simp [rgI]
theorem rgI_get {lo : Int} {n i : Nat} (h : i < n) : (rgI lo n)[i]? = some (lo + (i : Nat)) := by simp [rgI, h]
theorem rgI_mem {lo x : Int} {n : Nat} : x ∈ rgI lo n ↔ lo ≤ x ∧ x < lo + n := by
  unfold rgI
  rw [List.mem_map]
  constructor
  · rintro ⟨i, hi, rfl⟩
    have := List.mem_range.mp hi
    omega
  · rintro ⟨h1, h2⟩
    exact ⟨(x - lo).toNat, List.mem_range.mpr (by omega), by omega⟩
theorem wk_range {lo : Int} {n : Nat} : Wk (Itr lo n) H RI (rgI lo n) := by
  have hl := rgI_len lo n
  refine ⟨fun i H' s hi => by rw [hl] at hi; exact hi, fun H' s => by rw [hl]; exact Nat.le_refl _, fun i H' x H'' b s hb hy => ?_, fun i G D o x H'' b s hD hb hy => ?_⟩
  · obtain ⟨e, y⟩ := hy
    have hi : i < n := by
      have := (List.getElem?_eq_some_iff.mp hb).1
      omega
    rw [rgI_get hi] at hb
    cases hb
    rw [e]
    exact ⟨Same.refl _, y⟩
  · obtain ⟨e, y⟩ := hy
    have hi : i < n := by
      have := (List.getElem?_eq_some_iff.mp hb).1
      omega
    rw [rgI_get hi] at hb
    cases hb
    exact ⟨G, Same.refl _, hD, e, y⟩
theorem zip_get {as : List α} {bs : List β} {i : Nat} {c : α × β} (h : (as.zip bs)[i]? = some c) : as[i]? = some c.1 ∧ bs[i]? = some c.2 := by
  rw [List.getElem?_zip_eq_some] at h
  exact h
theorem upd_comm {G : Hp} {D T : Addr} {o u : HO} (h : T ≠ D) : upd (upd G D o) T u = upd (upd G T u) D o := by
  funext b
  by_cases h1 : b = T
  · rw [h1, upd_same, upd_ne h, upd_same]
  · rw [upd_ne h1]
    by_cases h2 : b = D
    · rw [h2, upd_same, upd_same]
    · rw [upd_ne h2, upd_ne h2, upd_ne h1]
theorem wk_zip [Up R] [Up S] {a b : Addr} {as : List α} {bs : List β} (h1 : RL K R H (.ref a) as) (h2 : RL K S H (.ref b) bs) : Wk (Itz K a b) H (RP K R S) (as.zip bs) := by
  obtain ⟨p, vs, e, hs, hr, hz⟩ := h1
  obtain ⟨p2, vs2, e2, hs2, hr2, hz2⟩ := h2
  cases e
  cases e2
  have hl := hr.len
  have hl2 := hr2.len
  have hlz : (as.zip bs).length = min as.length bs.length := List.length_zip
  refine ⟨fun i H' s hi => ?_, fun H' s => ⟨vs, vs2, s.seq hs, s.seq hs2, by omega⟩, fun i H' x H'' c s hb hy => ?_, fun i G D o x H'' c s hD hb hy => ?_⟩
  · have hi1 : i < vs.length := by omega
    have hi2 : i < vs2.length := by omega
    exact ⟨vs, vs2, vs[i], vs2[i], s.seq hs, s.seq hs2, by simp [hi1], by simp [hi2]⟩
  · obtain ⟨T, x1, y1, ex, hT, eH, k1, k2⟩ := hy
    obtain ⟨c1, c2⟩ := zip_get hb
    obtain ⟨d1, e1, r1⟩ := hr.get (k1 vs (s.seq hs))
    obtain ⟨d2, e2, r2⟩ := hr2.get (k2 vs2 (s.seq hs2))
    rw [c1] at e1
    rw [c2] at e2
    cases e1
    cases e2
    subst ex eH
    exact ⟨Same.new hT, RP.mk hT (Up.up s r1) (Up.up s r2)⟩
  · obtain ⟨T, x1, y1, ex, hT, eH, k1, k2⟩ := hy
    have s' : Same H (upd G D o) := s.trans (Same.new hD)
    obtain ⟨c1, c2⟩ := zip_get hb
    obtain ⟨d1, e1, r1⟩ := hr.get (k1 vs (s'.seq hs))
    obtain ⟨d2, e2, r2⟩ := hr2.get (k2 vs2 (s'.seq hs2))
    rw [c1] at e1
    rw [c2] at e2
    cases e1
    cases e2
    subst ex eH
    have hTD : T ≠ D := fun z => by
      rw [z, upd_same] at hT
      cases hT
    rw [upd_ne hTD] at hT
    exact ⟨upd G T (.tup [x1, y1]), Same.new hT, by rw [upd_ne (Ne.symm hTD)]; exact hD, upd_comm hTD, RP.mk hT (Up.up s r1) (Up.up s r2)⟩
theorem wk_zipT [Up R] [Up S] {a b : Addr} {as : List α} {bs : List β} (h1 : RT K R H (.ref a) as) (h2 : RT K S H (.ref b) bs) : Wk (RZ.ItzT K a b) H (RP K R S) (as.zip bs) := by
  obtain ⟨p, vs, e, hs, hr, hz⟩ := h1
  obtain ⟨p2, vs2, e2, hs2, hr2, hz2⟩ := h2
  cases e
  cases e2
  have hl := hr.len
  have hl2 := hr2.len
  have hlz : (as.zip bs).length = min as.length bs.length := List.length_zip
  refine ⟨fun i H' s hi => ?_, fun H' s => ⟨vs, vs2, Same.seqT s hs, Same.seqT s hs2, by omega⟩, fun i H' x H'' c s hb hy => ?_, fun i G D o x H'' c s hD hb hy => ?_⟩
  · have hi1 : i < vs.length := by omega
    have hi2 : i < vs2.length := by omega
    exact ⟨vs, vs2, vs[i], vs2[i], Same.seqT s hs, Same.seqT s hs2, by simp [hi1], by simp [hi2]⟩
  · obtain ⟨T, x1, y1, ex, hT, eH, k1, k2⟩ := hy
    obtain ⟨c1, c2⟩ := zip_get hb
    obtain ⟨d1, e1, r1⟩ := hr.get (k1 vs (Same.seqT s hs))
    obtain ⟨d2, e2, r2⟩ := hr2.get (k2 vs2 (Same.seqT s hs2))
    rw [c1] at e1
    rw [c2] at e2
    cases e1
    cases e2
    subst ex eH
    exact ⟨Same.new hT, RP.mk hT (Up.up s r1) (Up.up s r2)⟩
  · obtain ⟨T, x1, y1, ex, hT, eH, k1, k2⟩ := hy
    have s' : Same H (upd G D o) := s.trans (Same.new hD)
    obtain ⟨c1, c2⟩ := zip_get hb
    obtain ⟨d1, e1, r1⟩ := hr.get (k1 vs (Same.seqT s' hs))
    obtain ⟨d2, e2, r2⟩ := hr2.get (k2 vs2 (Same.seqT s' hs2))
    rw [c1] at e1
    rw [c2] at e2
    cases e1
    cases e2
    subst ex eH
    have hTD : T ≠ D := fun z => by
      rw [z, upd_same] at hT
      cases hT
    rw [upd_ne hTD] at hT
    exact ⟨upd G T (.tup [x1, y1]), Same.new hT, by rw [upd_ne (Ne.symm hTD)]; exact hD, upd_comm hTD, RP.mk hT (Up.up s r1) (Up.up s r2)⟩
theorem wk_enum [Up R] {a : Addr} {as : List α} (h : RL K R H (.ref a) as) : Wk (Ite K a) H (RP K RI R) ((rgI 0 as.length).zip as) := by
  obtain ⟨p, vs, e, hs, hr, hz⟩ := h
  cases e
  have hl := hr.len
  have hlz : ((rgI 0 as.length).zip as).length = as.length := by rw [List.length_zip, rgI_len, Nat.min_self]
  refine ⟨fun i H' s hi => ?_, fun H' s => ⟨vs, s.seq hs, by omega⟩, fun i H' x H'' c s hb hy => ?_, fun i G D o x H'' c s hD hb hy => ?_⟩
  · have hi1 : i < vs.length := by omega
    exact ⟨vs, vs[i], s.seq hs, by simp [hi1]⟩
  · obtain ⟨T, x1, ex, hT, eH, k1⟩ := hy
    obtain ⟨c1, c2⟩ := zip_get hb
    have hi : i < as.length := by
      have := (List.getElem?_eq_some_iff.mp hb).1
      omega
    rw [rgI_get hi] at c1
    obtain ⟨d1, e1, r1⟩ := hr.get (k1 vs (s.seq hs))
    rw [c2] at e1
    cases e1
    subst ex eH
    have hc1 : c.1 = ((i : Nat) : Int) := by
      have := Option.some.inj c1
      omega
    exact ⟨Same.new hT, RP.mk (a := c.1) (b := c.2) hT (by rw [hc1]; rfl) (Up.up s r1)⟩
  · obtain ⟨T, x1, ex, hT, eH, k1⟩ := hy
    have s' : Same H (upd G D o) := s.trans (Same.new hD)
    obtain ⟨c1, c2⟩ := zip_get hb
    have hi : i < as.length := by
      have := (List.getElem?_eq_some_iff.mp hb).1
      omega
    rw [rgI_get hi] at c1
    obtain ⟨d1, e1, r1⟩ := hr.get (k1 vs (s'.seq hs))
    rw [c2] at e1
    cases e1
    subst ex eH
    have hTD : T ≠ D := fun z => by
      rw [z, upd_same] at hT
      cases hT
    rw [upd_ne hTD] at hT
    have hc1 : c.1 = ((i : Nat) : Int) := by
      have := Option.some.inj c1
      omega
    exact ⟨upd G T (.tup [.int (i : Nat), x1]), Same.new hT, by rw [upd_ne (Ne.symm hTD)]; exact hD, upd_comm hTD, RP.mk (a := c.1) (b := c.2) hT (by rw [hc1]; rfl) (Up.up s r1)⟩
end

/-- storing the item makes the slots σ2 of the slots σ1, in every later heap -/
def GOk (g : TG) (x : V) (σ1 : L2.St) (H : Hp) (σ2 : L2.St) : Prop := ∀ H', Same H H' → ∀ Q : L2.St → Hp → Prop, Q σ2 H' → g x σ1 H' Q
theorem gok_name {i : Nat} {x : V} {σ : L2.St} {H : Hp} : GOk (gName i) x σ H (σ.set i (some x)) := fun _ _ _ q => q
theorem gok_pair {K : PySem.W.Frag} {p : Addr} {x y : V} {g1 g2 : TG} {σ σ1 σ2 : L2.St} {H : Hp} (h : SqT K H p [x, y]) (k1 : GOk g1 x σ H σ1) (k2 : GOk g2 y σ1 H σ2) : GOk (gTup K 2 (gCons g1 (gCons g2 gNil))) (.ref p) σ H σ2 := fun H' s Q q =>
  ⟨p, [x, y], rfl, Same.seqT s h, rfl, x, [y], rfl, k1 H' s _ ⟨y, [], rfl, k2 H' s _ ⟨rfl, q⟩⟩⟩

theorem tYes_of {σ : L2.St} {H : Hp} {A B : Hp → Prop} (h : A H) : tYes σ H fun b H3 => if b = true then A H3 else B H3 := by
  show (if true = true then A H else B H)
  rw [if_pos rfl]
  exact h
section
variable {K : PySem.W.Frag} {α β : Type} {R : Rl α} {S : Rl β} [Up R] [Up S] {J : It} {H1 : Hp} {as : List α} {g : TG} {te : TE} {tt : TT} {vs : List Nat} {σ : L2.St}
/-- [e for x in xs], e without a test: a map; f gives the item's due value -/
theorem lc_map (W : Wk J H1 R as) (hz : as.length ≤ sizeLine) (f : Nat → α → β) {Qd : Addr → Hp → Prop}
    (hb : ∀ i a G x, as[i]? = some a → Same H1 G → R G x a → ∃ σ2, GOk g x (wipe σ vs) G σ2 ∧ wipe σ2 vs = wipe σ vs ∧ ∀ Kt : VK, (∀ y G', Same G G' → S G' y (f i a) → Kt y G') → te σ2 G Kt)
    (hd : ∀ D H', Same H1 H' → RL K S H' (.ref D) (as.mapIdx f) → Qd D H') :
    ∀ D, H1 D = none → ∃ W : Nat → Nat → Hp → Prop, (∃ m, W 0 m (upd H1 D (.lst []))) ∧ ∀ i m H, W i m H →
      (J.stop i H ∧ Qd D H) ∨ (J.go i H ∧ ∃ Nx : Hp → Prop, (∀ H', Nx H' → ∃ m', m' < m ∧ W (i + 1) m' H') ∧ ∀ x H', J.yld i H x H' → g x (wipe σ vs) H' fun σ2 H2 => wipe σ2 vs = wipe σ vs ∧ tYes σ2 H2 fun b H3 =>
        if b = true then (tHid te) σ2 H3 fun y H4 => ∃ acc, H4 D = some (.lst acc) ∧ acc.length < sizeLine ∧ Nx (upd H4 D (.lst (acc ++ [y]))) else Nx H3) := by
  intro D hD
  refine ⟨fun i m H => m = as.length - i ∧ i ≤ as.length ∧ ∃ G acc, H = upd G D (.lst acc) ∧ G D = none ∧ Same H1 G ∧ RAll S G acc ((as.mapIdx f).take i), ⟨as.length, by simp, Nat.zero_le _, H1, [], rfl, hD, Same.refl _, by rw [List.take_zero]; exact .nil⟩, ?_⟩
  rintro i m H ⟨rfl, hi, G, acc, rfl, hG, s, ra⟩
  have hla : acc.length = i := by
    rw [ra.len, List.length_take, List.length_mapIdx]
    omega
  by_cases hlt : i < as.length
  · refine .inr ⟨W.go i _ (s.trans (Same.new hG)) hlt, fun H' => ∃ G' acc', H' = upd G' D (.lst acc') ∧ G' D = none ∧ Same H1 G' ∧ RAll S G' acc' ((as.mapIdx f).take (i + 1)), ?_, ?_⟩
    · rintro H' ⟨G', acc', e, h1, h2, h3⟩
      exact ⟨as.length - (i + 1), by omega, rfl, hlt, G', acc', e, h1, h2, h3⟩
    · intro x H' hy
      obtain ⟨G', s2, hG', eH, rx⟩ := W.yldD i G D _ x H' as[i] s hG (by simp [hlt]) hy
      subst eH
      obtain ⟨σ2, gk, hw, ht⟩ := hb i as[i] G' x (by simp [hlt]) (s.trans s2) rx
      refine gk _ (Same.new hG') _ ⟨hw, ?_⟩
      refine tYes_of ?_
      refine ⟨D, acc, upd_same, ?_⟩
      rw [hid_upd hG']
      refine ht _ fun y G2 s3 hy2 hG2 => ?_
      refine ⟨acc, upd_same, by omega, G2, acc ++ [y], ?_, hG2, (s.trans s2).trans s3, ?_⟩
      · rw [upd_upd]
      · have e : (as.mapIdx f).take (i + 1) = (as.mapIdx f).take i ++ [f i as[i]] := by
          rw [List.take_succ]
          simp [hlt]
        rw [e]
        exact (ra.up (s2.trans s3)).snoc hy2
  · have e : i = as.length := by omega
    subst e
    refine .inl ⟨W.stop _ (s.trans (Same.new hG)), hd D _ (s.trans (Same.new hG)) ?_⟩
    have e2 : (as.mapIdx f).take as.length = as.mapIdx f := by
      rw [List.take_of_length_le]
      simp
    rw [e2] at ra
    exact RL.mk hG ra (by omega)
end
end Wo
end
section
set_option Elab.async false
set_option linter.all false
set_option maxRecDepth 100000
set_option maxHeartbeats 4000000
/-! Wo, part D: readings, step by step. -/
namespace Wo
open PySem PySem.Spec PyProof.Rows L2
section
variable {σ : L2.St} {H : Hp} {Q : VK} {D : Ends} {v x y : V} {i j : Int} {n : Nat} {ta tb tc te : TE} {t u : TS} {tt tt' : TT} {K : PySem.W.Frag} {ts : TA}
theorem rd_var (h : σ[n]? = some (some v)) (q : Q v H) : tVar n σ H Q := ⟨v, h, q⟩
theorem rd_c (q : Q v H) : tC v σ H Q := q
theorem rd_op {r : R2} (q : ta σ H fun x H1 => tb σ H1 fun y H2 => r x y H2 Q) : tOp r ta tb σ H Q := q
theorem rd_un {r : V → Hp → VK → Prop} (q : ta σ H fun x H1 => r x H1 Q) : tUn r ta σ H Q := q
theorem rd_I0 {g : Int → Int → V} (q : Q (g i j) H) : rI0 g (.int i) (.int j) H Q := ⟨i, j, rfl, rfl, q⟩
theorem rd_I {C : Int → Int → Prop} {g : Int → Int → V} (q : Q (g i j) H) (c : C i j) : rI C g (.int i) (.int j) H Q := ⟨i, j, rfl, rfl, c, q⟩
theorem rd_U {g : Int → V} (q : Q (g i) H) : rU g (.int i) H Q := ⟨i, rfl, q⟩
theorem rd_eqI (q : Q (.bl (decide (i = j))) H) : rEq (.int i) (.int j) H Q := by
  refine ⟨rfl, ?_⟩
  have e : decide (V.int i = V.int j) = decide (i = j) := decide_eq_decide.mpr ⟨fun h => V.int.inj h, fun h => congrArg _ h⟩
  rw [e]
  exact q
theorem rd_neI (q : Q (.bl (!decide (i = j))) H) : rNe (.int i) (.int j) H Q := by
  refine ⟨rfl, ?_⟩
  have e : decide (V.int i = V.int j) = decide (i = j) := decide_eq_decide.mpr ⟨fun h => V.int.inj h, fun h => congrArg _ h⟩
  rw [e]
  exact q
theorem rd_eqS {a b : Str} (q : Q (.bl (decide (a = b))) H) : rEq (.str a) (.str b) H Q := by
  refine ⟨rfl, ?_⟩
  have e : decide (V.str a = V.str b) = decide (a = b) := decide_eq_decide.mpr ⟨fun h => V.str.inj h, fun h => congrArg _ h⟩
  rw [e]
  exact q
theorem rd_neS {a b : Str} (q : Q (.bl (!decide (a = b))) H) : rNe (.str a) (.str b) H Q := by
  refine ⟨rfl, ?_⟩
  have e : decide (V.str a = V.str b) = decide (a = b) := decide_eq_decide.mpr ⟨fun h => V.str.inj h, fun h => congrArg _ h⟩
  rw [e]
  exact q
theorem rd_test {P : Bool → Hp → Prop} (q : te σ H fun x H' => ∃ k, x = .bl k ∧ P k H') : tTest te σ H P := q
theorem rd_tB {P : Bool → Hp → Prop} (q : te σ H fun x H' => ∃ k, x = .bl k ∧ P k H') : tB te σ H P := q
theorem rd_exB {P : Bool → Prop} {b : Bool} (q : P b) : ∃ k, V.bl b = .bl k ∧ P k := ⟨b, rfl, q⟩
theorem rd_and {P : Bool → Hp → Prop} (q : tt σ H fun c H1 => if c = true then tt' σ H1 P else P false H1) : tAnd tt tt' σ H P := q
theorem rd_or {P : Bool → Hp → Prop} (q : tt σ H fun c H1 => if c = true then P true H1 else tt' σ H1 P) : tOr tt tt' σ H P := q
theorem rd_not {P : Bool → Hp → Prop} (q : tt σ H fun c H1 => P (!c) H1) : tNot tt σ H P := q
theorem rd_andV (q : ta σ H fun x H1 => ∃ c, x = .bl c ∧ if c = true then tb σ H1 Q else Q (.bl false) H1) : tAndV ta tb σ H Q := q
theorem rd_orV (q : ta σ H fun x H1 => ∃ c, x = .bl c ∧ if c = true then Q (.bl true) H1 else tb σ H1 Q) : tOrV ta tb σ H Q := q
theorem rd_notV (q : ta σ H fun x H1 => ∃ c, x = .bl c ∧ Q (.bl (!c)) H1) : tNotV ta σ H Q := q
theorem rd_if (q : tt σ H fun c H1 => if c = true then ta σ H1 Q else tb σ H1 Q) : tIf tt ta tb σ H Q := q
theorem rd_chain {r r' : R2} (q : ta σ H fun x H1 => tb σ H1 fun y H2 => r x y H2 fun z H3 => ∃ k, z = .bl k ∧ (if k = true then tc σ H3 fun w' H4 => r' y w' H4 Q else Q (.bl false) H3)) : tChain r r' ta tb tc σ H Q := q
theorem rd_nil {P : List V → Hp → Prop} (q : P [] H) : tNil σ H P := q
theorem rd_cons {P : List V → Hp → Prop} (q : ta σ H fun x H1 => ts σ H1 fun xs H2 => P (x :: xs) H2) : tCons ta ts σ H P := q
theorem rd_call {sp : Sp} {E : XK} (q : ts σ H fun vs H1 => sp vs H1 Q E) : tCallR sp E ts σ H Q := q
theorem rd_cb {r : List V → Hp → VK → Prop} (q : ts σ H fun vs H1 => r vs H1 Q) : tCB r ts σ H Q := q
theorem rd_tup (q : ts σ H fun xs H1 => xs.length ≤ sizeLine ∧ ∀ p, H1 p = none → Q (.ref p) (upd H1 p (.tup xs))) : tTup ts σ H Q := q
theorem rd_lst (q : ts σ H fun xs H1 => xs.length ≤ sizeLine ∧ ∀ p, H1 p = none → Q (.ref p) (upd H1 p (.lst xs))) : tLst ts σ H Q := q
theorem rd_newT {xs : List V} (k : ∀ p H2, H p = none → Same H H2 → H2 p = some (.tup xs) → Q (.ref p) H2) (hz : xs.length ≤ sizeLine) : xs.length ≤ sizeLine ∧ ∀ p, H p = none → Q (.ref p) (upd H p (.tup xs)) :=
  ⟨hz, fun p hp => k p _ hp (Same.new hp) upd_same⟩
theorem rd_newL {xs : List V} (k : ∀ p H2, H p = none → Same H H2 → H2 p = some (.lst xs) → Q (.ref p) H2) (hz : xs.length ≤ sizeLine) : xs.length ≤ sizeLine ∧ ∀ p, H p = none → Q (.ref p) (upd H p (.lst xs)) :=
  ⟨hz, fun p hp => k p _ hp (Same.new hp) upd_same⟩
theorem rd_seq (q : t { D with nx := u D } σ H) : tSeq t u D σ H := q
theorem rd_next (q : D.nx σ H) : tNext D σ H := q
theorem rd_drop (q : te σ H fun _ H1 => D.nx σ H1) : tDrop te D σ H := q
theorem rd_ret (q : te σ H D.rt) : tRet te D σ H := q
theorem rd_retN (q : D.rt .non H) : tRetN D σ H := q
theorem rd_ifS (q : tt σ H fun b H1 => if b = true then t D σ H1 else u D σ H1) : tIfS tt t u D σ H := q
theorem rd_asg {g : TG} (q : te σ H fun x H1 => g x σ H1 D.nx) : tAsg te g D σ H := q
theorem rd_gname {P : L2.St → Hp → Prop} (q : P (σ.set n (some v)) H) : gName n v σ H P := q
theorem rd_par {m : Nat} (q : ts σ H fun vs H1 => ∃ v w, vs = [v, w] ∧ D.nx ((σ.set n (some v)).set m (some w)) H1) : tPar n m ts D σ H := q
theorem rd_ex2 {P : V → V → Prop} (q : P v x) : ∃ a b, [v, x] = [a, b] ∧ P a b := ⟨v, x, rfl, q⟩
theorem rd_cont (q : D.ct σ H) : tCont D σ H := q
theorem rd_brk (q : D.bk σ H) : tBreak D σ H := q
end
/-! ### tests whose answer is known, or open -/
section
variable {A B P : Prop} {b : Bool}
theorem ite_dec [Decidable P] (h1 : P → A) (h2 : ¬ P → B) : if decide P = true then A else B := by
  by_cases h : P
  · rw [if_pos (decide_eq_true h)]
    exact h1 h
  · rw [if_neg (by simpa using h)]
    exact h2 h
theorem ite_ndec [Decidable P] (h1 : ¬ P → A) (h2 : P → B) : if (!decide P) = true then A else B := by
  by_cases h : P
  · rw [if_neg (by simpa using h)]
    exact h2 h
  · rw [if_pos (by simpa using h)]
    exact h1 h
theorem ite_b (h1 : b = true → A) (h2 : b = false → B) : if b = true then A else B := by
  cases b with
  | true => rw [if_pos rfl]; exact h1 rfl
  | false => rw [if_neg Bool.false_ne_true]; exact h2 rfl
theorem ite_nb (h1 : b = false → A) (h2 : b = true → B) : if (!b) = true then A else B := by
  cases b with
  | true => exact h2 rfl
  | false => exact h1 rfl
theorem ite_T (h : A) : if true = true then A else B := by rw [if_pos rfl]; exact h
theorem ite_F (h : B) : if false = true then A else B := by rw [if_neg Bool.false_ne_true]; exact h
theorem ite_t (e : b = true) (h : A) : if b = true then A else B := by rw [if_pos e]; exact h
theorem ite_f (e : b = false) (h : B) : if b = true then A else B := by rw [e]; exact ite_F h
end
end Wo
end
section
set_option Elab.async false
set_option linter.all false
set_option maxRecDepth 100000
set_option maxHeartbeats 4000000
/-! Wo, part E: constructors, slots, properties, built-ins over data; a list that is known by what is true of it. -/
namespace Wo
open PySem PySem.Spec PyProof.Rows L2

/-! ### a class that is called -/
def Ctor (P : Program) (w : World) (K : PySem.W.Frag) (mg : Str → Option Value) (base : Heap) (k : Nat) (x : Str) (sp : Sp) : Prop :=
  ∃ (C fi : Addr) (spi : Sp), mg x = some (.ref C) ∧ Mk K C fi ∧ FnR P w K mg base (CXW P w) k fi spi ∧
    ∀ vs H Q E, sp vs H Q E → ∀ y dx, H y = none → H dx = none → dx ≠ y → spi (.ref y :: vs) (upd (upd H dx (.own y)) y (.ins C dx [])) (fun v H2 => v = .non ∧ Q (.ref y) H2) E
section
variable {X : Cx} {k j : Nat} {sp : Sp} {x : Str} {p pos : Pos} {e : Expr} {es : List Expr} {t : TA} {E : XK}
theorem run_ctor {CXs : Passes (CXW X.prog X.w) X E} {pins : List (Addr × Obj)} {σ : L2.St} {H : Hp} {s : Shared} {Q : VK} {us : List Value} {vs : List V} (c : Ctor X.prog X.w X.K X.mg X.base k x sp) (hr : Room j X.A) (hk : k + 1 ≤ j) (hg : Gl X x)
    (I : Inv X pins σ H s) (r : Vals vs us) (h : sp vs H Q E) : ∃ C, X.mg x = some (.ref C) ∧ PySem.W.keepIn X.K (.ref C) = true ∧ wpAny (model X.prog X.w) X.A (call (.ref C) us) (EP X pins σ Q) X.xe s := by
  obtain ⟨C, fi, spi, hm, M, F, k⟩ := c
  exact ⟨C, hm, M.kp, StX.run_makeR M F (hr.mono hk) CXs I r fun y dx h1 h2 h3 => k vs H Q E h y dx h1 h2 h3⟩
/-- C(e, ..), nothing is raised -/
theorem pm (c : Ctor X.prog X.w X.K X.mg X.base k x sp) (hr : Room j X.A) (ha : PA X (e :: es) t) (hk : k + 1 ≤ j := by decide) (hg : Gl X x := by rfl) (hdb : (x == ("__debug__" : Str)) = false := by decide)
    (he : starEach (e :: es) X.env = (false, eval e X.env) :: starEach es X.env := by rfl) (hpl : (backTo pos (starEach es X.env)).any (·.1) = false := by rfl) : PE X (.Call (.Name x p) (e :: es) [] pos) (tCallR sp E0 t) := by
  obtain ⟨C, fi, spi, hm, M, F, kk⟩ := c
  refine ⟨fun pins s σ H Q I h => ?_⟩
  refine wpAny_Call_Name_kw (ld_glob I hg hm ?_ hdb)
  refine PySem.W.callWith_K (h₀ := X.base) I.ok.mod.kin M.kp (thn (ha.run pos pins s σ H _ I h) fun us s1 ⟨vs, H1, I1, r, q⟩ => ⟨I1.kIn, ?_⟩) he hpl
  exact StX.run_makeR M F (hr.mono hk) passF I1 r fun y dx h1 h2 h3 => kk vs H1 Q E0 q y dx h1 h2 h3
/-- a global that holds an int -/
theorem pe_gI {i : Int} (h : ∃ t, X.mg x = some (.int i t)) (hg : Gl X x := by rfl) (hd : (x == ("__debug__" : Str)) = false := by decide) (hc : (x == ("__classdict__" : Str)) = false := by decide) : PE X (.Name x pos) (tC (.int i)) := by
  obtain ⟨t, h⟩ := h
  exact pe_glob hg h (show RelV (.int i) (.int i t) from ⟨t, rfl⟩) hd
end

/-! ### slots -/
section
variable {K : PySem.W.Frag} {C fi : Addr} {f0 f1 : Str} {σ : L2.St} {H : Hp} {Q : VK} {v x y z : V} {D : Ends} {ta tv : TE}
theorem rd_slot {f : Str} (q : ta σ H fun x H1 => ∃ a C dx p vs i v, x = .ref a ∧ SlX.Slt H1 a C dx vs ∧ SlX.SCls K C ∧ SlX.Slot1 K C f p i ∧ vs[i]? = some (some v) ∧ Q v H1) : SlX.tSl K ta f σ H Q := q
theorem rd_slot0 {Q : V → Prop} (T : Sl2 K C f0 f1 fi) (h : Ob2 C H v x y) (q : Q x) : ∃ a C dx p vs i z, v = .ref a ∧ SlX.Slt H a C dx vs ∧ SlX.SCls K C ∧ SlX.Slot1 K C f0 p i ∧ vs[i]? = some (some z) ∧ Q z := by
  obtain ⟨a, dx, e, s⟩ := h
  obtain ⟨p, sp⟩ := T.s0
  exact ⟨a, C, dx, p, _, 0, x, e, s, T.cl, sp, rfl, q⟩
theorem rd_slot1 {Q : V → Prop} (T : Sl2 K C f0 f1 fi) (h : Ob2 C H v x y) (q : Q y) : ∃ a C dx p vs i z, v = .ref a ∧ SlX.Slt H a C dx vs ∧ SlX.SCls K C ∧ SlX.Slot1 K C f1 p i ∧ vs[i]? = some (some z) ∧ Q z := by
  obtain ⟨a, dx, e, s⟩ := h
  obtain ⟨p, sp⟩ := T.s1
  exact ⟨a, C, dx, p, _, 1, y, e, s, T.cl, sp, rfl, q⟩
theorem rd_sst {f : Str} (q : tv σ H fun y H1 => ta σ H1 fun x H2 => ∃ a C dx p vs i, x = .ref a ∧ SlX.Slt H2 a C dx vs ∧ SlX.SCls K C ∧ SlX.Slot1 K C f p i ∧ D.nx σ (SlX.slH H2 a C dx (SlX.putS i y vs))) : SlX.sSl K ta tv f D σ H := q
/-- the promise of an __init__(self, a, b) that stores a as the second slot, then b as the first -/
def sp_init2 (C : Addr) : Sp := sp3 fun s a b H Q _ => ∃ y dx, s = .ref y ∧ dx ≠ y ∧ H y = some (.ins C dx []) ∧ ∀ H', SlX.Slt H' y C dx [some b, some a] → (∀ c o, H c = some o → c ≠ y → c ≠ dx → H' c = some o) → Q .non H'
end

/-! ### a list that is known by what is true of it -/
def UrnO (u : Addr) (P : List V → Prop) : HO := .ext fun h => ∃ (xs : List V) (its : List Value) (n : Nat), P xs ∧ xs.length ≤ sizeLine ∧ Vals xs its ∧ h.get? u = some { cls := .type "list", data := .seq its.toArray n }
theorem urn_ok {P : Program} {w : World} {H : Hp} {h : Heap} {u : Addr} {p : List V → Prop} {xs : List V} (hp : p xs) (q : ObjOk P w H h u (.lst xs)) {H' : Hp} : ObjOk P w H' h u (UrnO u p) := by
  obtain ⟨z, its, n, r, e⟩ := q
  refine ⟨⟨xs, its, n, hp, z, r, e⟩, ⟨_, e⟩, fun h1 h2 ⟨xs, its, n, a, b, c, d⟩ st => ⟨xs, its, n, a, b, c, st _ d⟩⟩
theorem urn_lst {P : Program} {w : World} {H : Hp} {h : Heap} {u : Addr} {p : List V → Prop} (q : ObjOk P w H h u (UrnO u p)) : ∃ xs, p xs ∧ ∀ H', ObjOk P w H' h u (.lst xs) := by
  obtain ⟨⟨xs, its, n, hp, z, r, e⟩, _, _⟩ := q
  exact ⟨xs, hp, fun H' => ⟨z, its, n, r, e⟩⟩
section
variable {P : Program} {w : World} {K : PySem.W.Frag} {mg : Str → Option Value} {base : Heap} {k : Nat} {f : Addr} {sp spC : Sp} {p : List V → Prop}
theorem hok_swap {H : Hp} {h : Heap} {u : Addr} {o o' : HO} (hok : HOk P w H h) (hu : H u = some o) (h1 : ∀ x, o ≠ .own x) (h2 : ∀ xs, o ≠ .tup xs) (new : ObjOk P w (upd H u o') h u o') : HOk P w (upd H u o') h := fun b q e => by
  by_cases z : b = u
  · subst z
    rw [upd_same] at e
    cases e
    exact new
  · rw [upd_ne z] at e
    refine (hok b q e).stay (fun c v hc z => z) (fun c z => ?_) fun c xs z => ?_
    · rw [upd_ne (ne_of z hu (Ne.symm (h1 b)))]
      exact z
    · rw [upd_ne (ne_of z hu (Ne.symm (h2 xs)))]
      exact z
/-- a def over a written list, over one that is known by p alone -/
theorem fnR_urn (F : FnR P w K mg base (CXW P w) k f spC)
    (h : ∀ vs H Q E, sp vs H Q E → ∃ u, H u = some (UrnO u p) ∧ ∀ xs, p xs → spC vs (upd H u (.lst xs)) (fun v H' => ∃ ys, p ys ∧ H' u = some (.lst ys) ∧ Q v (upd H' u (UrnO u p))) E0) : FnR P w K mg base (CXW P w) k f sp := by
  intro A outer s H us vs Q E hr e0 r hs
  obtain ⟨u, hu, h⟩ := h vs H Q E hs
  obtain ⟨xs, hp, hl⟩ := urn_lst (e0.hok u _ hu)
  have hn : ∀ b, H b = none → upd H u (.lst xs) b = none := fun b q => by
    rw [upd_ne (fun z => by rw [z, hu] at q; cases q)]
    exact q
  have nd : ∀ b o, H b = some o → o ≠ UrnO u p → upd H u (.lst xs) b = some o := fun b o q z => by
    rw [upd_ne (ne_of q hu z)]
    exact q
  have e1 : Env0 P w K mg base A outer s (upd H u (.lst xs)) := ⟨e0.frames, e0.mod, fun b o q => ⟨(e0.bs b o q).1, hn b (e0.bs b o q).2⟩, e0.bsz, e0.funs, fun b q => hn b (e0.frf b q), hok_swap e0.hok hu (fun x z => by unfold UrnO at z; cases z) (fun x z => by unfold UrnO at z; cases z) (hl _), e0.bare⟩
  refine codeAny_mono (F A outer s _ us vs _ E0 hr e1 r (h xs hp)) fun r s' hq => ?_
  cases r with
  | error e =>
    obtain ⟨a, B, H', cls, d, _, _, _, _, _, _, _, h⟩ := (show CXW P w outer _ s E0 e s' from hq)
    exact h.elim
  | ok fl =>
    cases fl with
    | ret v =>
      obtain ⟨x, H', h1, h2, un, ok, rv, ys, hy, hH, q⟩ := (show CE outer P w _ s _ v s' from hq)
      refine ⟨x, upd H' u (UrnO u p), h1, h2, ?_, ?_, rv, q⟩
      · have nu : ∀ b o, H' b = some o → o ≠ .lst ys → upd H' u (UrnO u p) b = some o := fun b o q z => by
          rw [upd_ne (ne_of q hH z)]
          exact q
        refine ⟨fun b o a c d e => un.keep b o a (hn b c) d e, fun b o a c d e => un.slot b o a (hn b c) d e, fun b o a c d => ?_, un.there, fun b zs q => ?_, fun b o v q => ?_, fun b ps q => ?_⟩
        · rw [upd_ne (fun z => by rw [z, hu] at c; cases c)]
          exact un.free b o a (hn b c) d
        · exact nu _ _ (un.tups b zs (nd _ _ q (by intro z; unfold UrnO at z; cases z))) (by intro z; cases z)
        · exact nu _ _ (un.frzs b o v (nd _ _ q (by intro z; unfold UrnO at z; cases z))) (by intro z; cases z)
        · obtain ⟨more, q2⟩ := un.tbls b ps (nd _ _ q (by intro z; unfold UrnO at z; cases z))
          exact ⟨more, nu _ _ q2 (by intro z; cases z)⟩
      · exact hok_swap ok hH (fun x z => by cases z) (fun x z => by cases z) (urn_ok hy (ok u _ hH))
    | next => exact False.elim hq
    | brk => exact False.elim hq
    | cont => exact False.elim hq
/-- a def that makes a list, of which p alone is told -/
theorem fnR_made (F : FnR P w K mg base (CXW P w) k f spC)
    (h : ∀ vs H Q E, sp vs H Q E → spC vs H (fun v H' => ∃ u ys, v = .ref u ∧ H' u = some (.lst ys) ∧ p ys ∧ H u = none ∧ Q v (upd H' u (UrnO u p))) E0) : FnR P w K mg base (CXW P w) k f sp := by
  intro A outer s H us vs Q E hr e0 r hs
  refine codeAny_mono (F A outer s _ us vs _ E0 hr e0 r (h vs H Q E hs)) fun r s' hq => ?_
  cases r with
  | error e =>
    obtain ⟨a, B, H', cls, d, _, _, _, _, _, _, _, h⟩ := (show CXW P w outer _ s E0 e s' from hq)
    exact h.elim
  | ok fl =>
    cases fl with
    | ret v =>
      obtain ⟨x, H', h1, h2, un, ok, rv, u, ys, ex, hH, hy, hn, q⟩ := (show CE outer P w _ s _ v s' from hq)
      refine ⟨x, upd H' u (UrnO u p), h1, h2, ?_, ?_, rv, q⟩
      · have nu : ∀ b o, H' b = some o → o ≠ .lst ys → upd H' u (UrnO u p) b = some o := fun b o q z => by
          rw [upd_ne (ne_of q hH z)]
          exact q
        refine ⟨un.keep, un.slot, fun b o a c d => ?_, un.there, fun b zs q => ?_, fun b o v q => ?_, fun b ps q => ?_⟩
        · have := un.free b o a c d
          rw [upd_ne (fun z => by rw [z, hH] at this; cases this)]
          exact this
        · exact nu _ _ (un.tups b zs q) (by intro z; cases z)
        · exact nu _ _ (un.frzs b o v q) (by intro z; cases z)
        · obtain ⟨more, q2⟩ := un.tbls b ps q
          exact ⟨more, nu _ _ q2 (by intro z; cases z)⟩
      · exact hok_swap ok hH (fun x z => by cases z) (fun x z => by cases z) (urn_ok hy (ok u _ hH))
    | next => exact False.elim hq
    | brk => exact False.elim hq
    | cont => exact False.elim hq
end

/-! ### built-ins over data -/
def rLen (K : PySem.W.Frag) : List V → Hp → VK → Prop := fun xs H Q => ∃ p ys, xs = [.ref p] ∧ (SqL K H p ys ∨ SqT K H p ys) ∧ Q (.int ys.length) H
def rAbs : List V → Hp → VK → Prop := fun xs H Q => ∃ i, xs = [.int i] ∧ Q (.int (if i < 0 then -i else i)) H
def rMax2 : List V → Hp → VK → Prop := fun xs H Q => ∃ i j, xs = [.int i, .int j] ∧ Q (.int (if j > i then j else i)) H
def rMin2 : List V → Hp → VK → Prop := fun xs H Q => ∃ i j, xs = [.int i, .int j] ∧ Q (.int (if j < i then j else i)) H
def rInt1 : List V → Hp → VK → Prop := fun xs H Q => (∃ i, xs = [.int i] ∧ Q (.int i) H) ∨ ∃ k, xs = [.bl k] ∧ Q (.int (if k then 1 else 0)) H
def rBool1 : List V → Hp → VK → Prop := fun xs H Q => (∃ i, xs = [.int i] ∧ Q (.bl (i != 0)) H) ∨ ∃ k, xs = [.bl k] ∧ Q (.bl k) H
def rTupOf (K : PySem.W.Frag) : List V → Hp → VK → Prop := fun xs H Q => ∃ p ys, xs = [.ref p] ∧ ((SqL K H p ys ∧ ∀ l, H l = none → Q (.ref l) (upd H l (.tup ys))) ∨ (SqT K H p ys ∧ Q (.ref p) H))
def rLstOf (K : PySem.W.Frag) : List V → Hp → VK → Prop := fun xs H Q => ∃ p ys, xs = [.ref p] ∧ (SqL K H p ys ∨ SqT K H p ys) ∧ ∀ l, H l = none → Q (.ref l) (upd H l (.lst ys))
section
variable {X : Cx}
theorem bi_len : CallR X (.builtin "len") (rLen X.K) := call_len_seq
theorem bi_abs : CallR X (.builtin "abs") rAbs := call_abs
theorem bi_max2 (hc : X.calm = true) : CallR X (.builtin "max") rMax2 := call_max2 hc
theorem bi_min2 (hc : X.calm = true) : CallR X (.builtin "min") rMin2 := call_min2 hc
theorem bi_int1 : CallR X (.type "int") rInt1 := call_int1
theorem bi_bool1 : CallR X (.type "bool") rBool1 := call_bool1
theorem bi_tuple : CallR X (.type "tuple") (rTupOf X.K) := call_tuple_of
theorem bi_list : CallR X (.type "list") (rLstOf X.K) := call_list_of
end
section
variable {K : PySem.W.Frag} {α β : Type} {R : Rl α} {S : Rl β} {H : Hp} {Q : VK} {v x : V} {as : List α} {i : Int} {n : Nat} {a : α} {b : β}
theorem rd_lenL {as : List α} (h : RL K R H v as) (q : Q (.int (as.length : Int)) H) : rLen K [v] H Q := by
  obtain ⟨p, vs, rfl, hs, hr, hz⟩ := h
  exact ⟨p, vs, rfl, .inl hs, by rw [hr.len]; exact q⟩
theorem rd_lenT {as : List α} (h : RT K R H v as) (q : Q (.int (as.length : Int)) H) : rLen K [v] H Q := by
  obtain ⟨p, vs, rfl, hs, hr, hz⟩ := h
  exact ⟨p, vs, rfl, .inr hs, by rw [hr.len]; exact q⟩
theorem rd_tupleL [Up R] (h : RL K R H v as) (k : ∀ w H', Same H H' → RT K R H' w as → Q w H') : rTupOf K [v] H Q := by
  obtain ⟨p, vs, rfl, hs, hr, hz⟩ := h
  exact ⟨p, vs, rfl, .inl ⟨hs, fun l hl => k _ _ (Same.new hl) (RT.mk hl hr hz)⟩⟩
theorem rd_listL [Up R] (h : RL K R H v as) (k : ∀ w H', Same H H' → RL K R H' w as → Q w H') : rLstOf K [v] H Q := by
  obtain ⟨p, vs, rfl, hs, hr, hz⟩ := h
  exact ⟨p, vs, rfl, .inl hs, fun l hl => k _ _ (Same.new hl) (RL.mk hl hr hz)⟩
theorem rd_listT [Up R] (h : RT K R H v as) (k : ∀ w H', Same H H' → RL K R H' w as → Q w H') : rLstOf K [v] H Q := by
  obtain ⟨p, vs, rfl, hs, hr, hz⟩ := h
  exact ⟨p, vs, rfl, .inr hs, fun l hl => k _ _ (Same.new hl) (RL.mk hl hr hz)⟩
theorem rd_ixL (h : RL K R H v as) (hi : as[n]? = some a) (k : ∀ w, R H w a → Q w H) (hn : i = (n : Int) := by rfl) : rIxL K v (.int i) H Q := by
  obtain ⟨p, vs, rfl, hs, hr, hz⟩ := h
  obtain ⟨w, hw, rw⟩ := hr.getR hi
  subst hn
  exact ⟨p, vs, _, w, rfl, rfl, hs, atI_nat hw, k w rw⟩
theorem rd_ixT (h : RT K R H v as) (hi : as[n]? = some a) (k : ∀ w, R H w a → Q w H) (hn : i = (n : Int) := by rfl) : rIxT K v (.int i) H Q := by
  obtain ⟨p, vs, rfl, hs, hr, hz⟩ := h
  obtain ⟨w, hw, rw⟩ := hr.getR hi
  subst hn
  exact ⟨p, vs, _, w, rfl, rfl, hs, atI_nat hw, k w rw⟩
theorem rd_fst {ab : α × β} (h : RP K R S H v ab) (k : ∀ w, R H w ab.1 → Q w H) : rIxT K v (.int 0) H Q := by
  obtain ⟨p, x, y, rfl, hs, h1, h2⟩ := h
  exact ⟨p, _, 0, x, rfl, rfl, hs, rfl, k x h1⟩
theorem rd_snd {ab : α × β} (h : RP K R S H v ab) (k : ∀ w, S H w ab.2 → Q w H) : rIxT K v (.int 1) H Q := by
  obtain ⟨p, x, y, rfl, hs, h1, h2⟩ := h
  exact ⟨p, _, 1, y, rfl, rfl, hs, rfl, k y h2⟩
theorem rd_abs (q : Q (.int (i.natAbs : Int)) H) : rAbs [.int i] H Q := ⟨i, rfl, by
  have e : (if i < 0 then -i else i) = (i.natAbs : Int) := by split <;> omega
  rw [e]
  exact q⟩
theorem rd_int (q : Q (.int i) H) : rInt1 [.int i] H Q := .inl ⟨i, rfl, q⟩
theorem rd_intB {k : Bool} (q : Q (.int (if k then 1 else 0)) H) : rInt1 [.bl k] H Q := .inr ⟨k, rfl, q⟩
theorem rd_max2 {j : Int} (q : Q (.int (max i j)) H) : rMax2 [.int i, .int j] H Q := ⟨i, j, rfl, by
  have e : (if j > i then j else i) = max i j := by split <;> omega
  rw [e]
  exact q⟩
theorem rd_min2 {j : Int} (q : Q (.int (min i j)) H) : rMin2 [.int i, .int j] H Q := ⟨i, j, rfl, by
  have e : (if j < i then j else i) = min i j := by split <;> omega
  rw [e]
  exact q⟩
theorem rd_all {bs : List Bool} (h : RL K RB H v bs) (q : Q (.bl (bs.all id)) H) : rAll K [v] H Q := by
  obtain ⟨p, vs, rfl, hs, hr, hz⟩ := h
  rw [hr.of_bls] at hs
  exact ⟨p, bs, rfl, hs, q⟩
theorem rd_any {bs : List Bool} (h : RL K RB H v bs) (q : Q (.bl (bs.any id)) H) : rAny K [v] H Q := by
  obtain ⟨p, vs, rfl, hs, hr, hz⟩ := h
  rw [hr.of_bls] at hs
  exact ⟨p, bs, rfl, hs, q⟩
theorem rd_gcd {j : Int} (q : Q (.int ((Nat.gcd i.natAbs j.natAbs : Nat) : Int)) H) : rGcd [.int i, .int j] H Q := ⟨i, j, rfl, q⟩
end
theorem RP.at {K : PySem.W.Frag} {α β : Type} {R : Rl α} {S : Rl β} {H : Hp} {p : Addr} {x y : V} {a : α} {b : β} (h : H p = some (.tup [x, y])) (h1 : R H x a) (h2 : S H y b) : RP K R S H (.ref p) (a, b) := ⟨p, x, y, rfl, .inl (.inl h), h1, h2⟩
theorem RT.at {K : PySem.W.Frag} {α : Type} {R : Rl α} {H : Hp} {p : Addr} {vs : List V} {as : List α} (h : H p = some (.tup vs)) (hr : RAll R H vs as) (hz : vs.length ≤ sizeLine) : RT K R H (.ref p) as := ⟨p, vs, rfl, .inl (.inl h), hr, hz⟩
theorem RL.at {K : PySem.W.Frag} {α : Type} {R : Rl α} {H : Hp} {p : Addr} {vs : List V} {as : List α} (h : H p = some (.lst vs)) (hr : RAll R H vs as) (hz : vs.length ≤ sizeLine) : RL K R H (.ref p) as := ⟨p, vs, rfl, .inl (.inl h), hr, hz⟩
end Wo
end
section
set_option Elab.async false
set_option linter.all false
set_option maxRecDepth 100000
set_option maxHeartbeats 4000000
/-! Wo, part F: isinstance of anything, floor division, constructors of slotted classes. -/
namespace Wo
open PySem PySem.Spec PyProof.Rows L2

/-- the type of a value -/
def HasTy (K : PySem.W.Frag) (H : Hp) (x : V) (t : Value) : Prop := TyX K H x t ∨ ∃ a C dx vs, x = .ref a ∧ t = .ref C ∧ SlX.Slt H a C dx vs ∧ SlX.SCls K C ∧ SlX.SIsi K C
def rIsiA (K : PySem.W.Frag) : List V → Hp → VK → Prop := fun xs H Q => ∃ (x c : V) (t u : Value) (b : Bool), xs = [x, c] ∧ ClsV c u ∧ HasTy K H x t ∧ PySem.W.kitOne K t u = some b ∧ Q (.bl b) H
theorem isi {X : Cx} : CallR X (.builtin "isinstance") (rIsiA X.K) := by
  intro pins s σ H xs us Q I r h
  obtain ⟨x, c, t, u, b, rfl, k, ty, e, q⟩ := h
  rcases ty with ty | ⟨a, C, dx, vs, rfl, rfl, hs, hc, hi⟩
  · exact call_isi pins s σ H _ us Q I r ⟨x, c, t, u, b, rfl, k, ty, e, q⟩
  · refine SlX.call_isiSl u pins s σ H _ us Q I r ⟨a, C, dx, vs, c, b, rfl, ?_, fun w r => k.eq r, hs, hc, hi, e, q⟩
    cases k with
    | ty n => exact (rfl : Value.type n = Value.type n)
    | own C => exact (rfl : Value.ref C = Value.ref C)
section
variable {K : PySem.W.Frag} {H : Hp} {Q : VK} {v x y : V} {C D : Addr} {f0 f1 : Str} {fi : Addr} {b : Bool} {T : String}
theorem rd_isi {t u : Value} {c : V} (ty : HasTy K H v t) (k : ClsV c u) (e : PySem.W.kitOne K t u = some b) (q : Q (.bl b) H) : rIsiA K [v, c] H Q := ⟨v, c, t, u, b, rfl, k, ty, e, q⟩
theorem HasTy.ob (T : Sl2 K C f0 f1 fi) (h : Ob2 C H v x y) : HasTy K H v (.ref C) := by
  obtain ⟨a, dx, e, s⟩ := h
  exact .inr ⟨a, C, dx, _, e, rfl, s, T.cl, T.si⟩
theorem HasTy.int {i : Int} : HasTy K H (.int i) (.type "int") := .inl (.base (.int i))
theorem HasTy.bool {i : Bool} : HasTy K H (.bl i) (.type "bool") := .inl (.base (.bl i))
theorem HasTy.str {i : Str} : HasTy K H (.str i) (.type "str") := .inl (.base (.str i))
theorem HasTy.none : HasTy K H .non (.type "NoneType") := .inl (.base .non)
end
/-- a // b, the divisor not 0 and of less than 9000 bits, or the other one of less than 13530 bits -/
def CDivA (i j : Int) : Prop := j ≠ 0 ∧ (j.natAbs.log2 < 9000 ∨ i.natAbs.log2 < 13530)
theorem noPylong_near {x y : Int} (h : x.natAbs.log2 < 13530) : Builtin.divisionGoesByPylong x y = false := by
  have kx : (if x == 0 then 0 else x.natAbs.log2 / 30 + 1) ≤ 451 := by
    by_cases hx : (x == 0) = true
    · rw [if_pos hx]; exact Nat.zero_le _
    · rw [if_neg hx]; omega
  show (decide ((if y == 0 then 0 else y.natAbs.log2 / 30 + 1) > 300) && decide ((if x == 0 then 0 else x.natAbs.log2 / 30 + 1) > (if y == 0 then 0 else y.natAbs.log2 / 30 + 1) + 150)) = false
  generalize (if x == 0 then 0 else x.natAbs.log2 / 30 + 1) = dx at *
  generalize (if y == 0 then 0 else y.natAbs.log2 / 30 + 1) = dy at *
  by_cases h1 : dy > 300
  · rw [decide_eq_false (p := dx > dy + 150) (by omega), Bool.and_false]
  · rw [decide_eq_false h1, Bool.false_and]
theorem op_fdivA {X : Cx} : OpR X (binaryOp .FloorDiv) (rI CDivA fun i j => .int (i.fdiv j)) := opI fun i j _ _ _ _ _ hc q => floordiv_int hc.1 q (.inl (hc.2.elim PyProof.noPylong_of_log2 noPylong_near))
theorem div_of {i j : Int} {b : Nat} (h : j ≠ 0) (hb : j.natAbs < 2 ^ b) (h0 : 0 < b := by decide) (h9 : b ≤ 9000 := by decide) : CDivA i j := ⟨h, .inl (Nat.lt_of_lt_of_le (PySem.Flt.log2_lt_of h0 hb) h9)⟩
theorem div_near {i j : Int} {b : Nat} (h : j ≠ 0) (hb : i.natAbs < 2 ^ b) (h0 : 0 < b := by decide) (h9 : b ≤ 13530 := by decide) : CDivA i j := ⟨h, .inr (Nat.lt_of_lt_of_le (PySem.Flt.log2_lt_of h0 hb) h9)⟩
theorem mul_of {i j : Int} {a b : Nat} (ha : i.natAbs < 2 ^ a) (hb : j.natAbs < 2 ^ b) (h0 : 0 < a := by decide) (h1 : 0 < b := by decide) (h : a + b ≤ 1000000 := by decide) : CMulW i j := wide_mul ha hb h0 h1 h
/-- a slotted class whose __init__ stores both values -/
theorem ctor2 {P : Program} {w : World} {K : PySem.W.Frag} {mg : Str → Option Value} {base : Heap} {k : Nat} {x f0 f1 : Str} {C fi : Addr} (hm : mg x = some (.ref C)) (T : Sl2 K C f0 f1 fi) (F : FnR P w K mg base (CXW P w) k fi (sp_init2 C)) :
    Ctor P w K mg base k x (sp2 fun a b H Q _ => ∀ v H', Same H H' → Ob2 C H' v b a → Q v H') := by
  refine ⟨C, fi, _, hm, T.make, F, fun vs H Q E h y dx h1 h2 h3 => ?_⟩
  obtain ⟨a, b, rfl, k⟩ := h
  refine ⟨_, a, b, rfl, y, dx, rfl, h3, upd_same, fun H' hs hk => ⟨rfl, k _ H' (fun c o e => ?_) ⟨y, dx, rfl, hs⟩⟩⟩
  have n1 := ne_of_none e h1
  have n2 := ne_of_none e h2
  exact hk c o (by rw [upd_ne n1, upd_ne n2]; exact e) n1 n2
end Wo
end
section
set_option Elab.async false
set_option linter.all false
set_option maxRecDepth 100000
set_option maxHeartbeats 4000000
/-! Wo, part H: plain facts of ratios. -/
namespace Wo
open PySem
theorem gcd_sw (t b : Int) : b.gcd t = Nat.gcd t.natAbs b.natAbs := by
  rw [Int.gcd_comm]; rfl
theorem gcd_dl (t b : Int) : ((Nat.gcd t.natAbs b.natAbs : Nat) : Int) ∣ t := Int.gcd_dvd_left t b
theorem gcd_dr (t b : Int) : ((Nat.gcd t.natAbs b.natAbs : Nat) : Int) ∣ b := Int.gcd_dvd_right t b
theorem gcd_ps {t b : Int} (h : b ≠ 0) : 0 < Nat.gcd t.natAbs b.natAbs := Nat.gcd_pos_of_pos_right _ (by omega)
theorem gcd_le {t b : Int} (h : b ≠ 0) : Nat.gcd t.natAbs b.natAbs ≤ b.natAbs := Nat.gcd_le_right _ (by omega)
theorem low_num {t b : Int} (hb : 0 < b) : (Rat.divInt t b).num = t.fdiv ((Nat.gcd t.natAbs b.natAbs : Nat) : Int) := by
  rw [Rat.num_divInt, gcd_sw, Int.fdiv_eq_ediv_of_dvd (gcd_dl t b), Int.sign_eq_one_of_pos hb, Int.one_mul]
theorem low_numN {t b : Int} (hb : b < 0) : (Rat.divInt t b).num = t.fdiv (-((Nat.gcd t.natAbs b.natAbs : Nat) : Int)) := by
  have hg := gcd_ps (t := t) (b := b) (by omega)
  rw [Rat.num_divInt, gcd_sw, Int.fdiv_neg (by omega), if_pos (gcd_dl t b), Int.fdiv_eq_ediv_of_dvd (gcd_dl t b), Int.sign_eq_neg_one_of_neg hb, ← Int.neg_ediv_of_dvd (gcd_dl t b)]
  congr 1
  omega
theorem low_den {t b : Int} (hb : 0 < b) : ((Rat.divInt t b).den : Int) = b.fdiv ((Nat.gcd t.natAbs b.natAbs : Nat) : Int) := by
  rw [Rat.den_divInt, gcd_sw, Int.fdiv_eq_ediv_of_dvd (gcd_dr t b), if_neg (by omega), Int.natCast_ediv]
  congr 1
  omega
theorem low_denN {t b : Int} (hb : b < 0) : ((Rat.divInt t b).den : Int) = b.fdiv (-((Nat.gcd t.natAbs b.natAbs : Nat) : Int)) := by
  have hg := gcd_ps (t := t) (b := b) (by omega)
  rw [Rat.den_divInt, gcd_sw, Int.fdiv_neg (by omega), if_pos (gcd_dr t b), Int.fdiv_eq_ediv_of_dvd (gcd_dr t b), if_neg (by omega), Int.natCast_ediv, ← Int.neg_ediv_of_dvd (gcd_dr t b)]
  congr 1
  omega
theorem gcd_lt2 {t b : Int} {n : Nat} (h : b ≠ 0) (hs : b.natAbs < 2 ^ n) : (((Nat.gcd t.natAbs b.natAbs : Nat) : Int)).natAbs < 2 ^ n ∧ (-((Nat.gcd t.natAbs b.natAbs : Nat) : Int)).natAbs < 2 ^ n ∧ ((Nat.gcd t.natAbs b.natAbs : Nat) : Int) ≠ 0 := by
  have h1 := gcd_le (t := t) h
  have h2 := gcd_ps (t := t) h
  generalize Nat.gcd t.natAbs b.natAbs = g at *
  exact ⟨by omega, by omega, by omega⟩
end Wo
end
section
set_option Elab.async false
set_option linter.all false
set_option maxRecDepth 100000
set_option maxHeartbeats 4000000
/-! Wo, part G: == and != of nested data, both answers; math.lcm; defaults; properties; methods. -/
namespace Wo
open PySem PySem.Spec PyProof.Rows L2
section
open PySem.SeqAt
open AutoSeq1 (wpAny_loadPart')
open MeetsSeq MeetsSeq2 MeetsSeq3 SeqRoads2
variable {prog : Program} {w : World} {A : Around} {R : Result → Shared → Prop}
/-- at each turn the two lists are read anew; the i-th two are equal, or R holds of the answer no -/
def ListB (prog : Program) (w : World) (A : Around) (R : Result → Shared → Prop) (no : Bool) (l b : Addr) (N : Nat) (I : Nat → Shared → Prop) : Prop :=
  ∀ i s, I i s → ∃ (items items2 : Array Value) (n n2 : Nat) (sl sl2 : Array (Option Value)), s.heap.get? l = some { cls := .type "list", data := .seq items n, slots := sl } ∧ s.heap.get? b = some { cls := .type "list", data := .seq items2 n2, slots := sl2 } ∧ items.size = N ∧ items2.size = N ∧
    ∀ (h1 : i < items.size) (h2 : i < items2.size), wpAny (model prog w) A.in1 (eqBool items[i] items2[i]) (fun r s' => if r = true then I (i + 1) s' else (I i s' ∧ R (.ok (.ret (.bool no))) s')) (fun e s' => R (.error e) s') s
/-- code 2: ==; 3: != -/
theorem loopB (code : Nat) (no : Bool) (hc : (code = 2 ∧ no = false) ∨ (code = 3 ∧ no = true)) (l b : Addr) (N : Nat) (I : Nat → Shared → Prop) (hl : ListB prog w A R no l b N I)
    (fin : ∀ s, I N s → R (.ok (.ret (.bool (!no)))) s) (k : Nat) :
    ∀ i : Nat, N - i = k → i ≤ N → ∀ s, I i s →
      wpAny (model prog w) A.in1 (Builtin.«list.__eq__.loop» ⟨[.ref l, .ref b, rawInt i, rawInt code], []⟩) (GQ.FinOf prog w A R) (fun e s' => R (.error e) s') s := by
  induction k with
  | zero =>
    intro i hk hi s h
    obtain ⟨items, items2, n, n2, sl, sl2, hl1, hb1, hs1, hs2, _⟩ := hl _ _ h
    have hi' : i = N := by omega
    have hR : R (.ok (.ret (.bool (!no)))) s := fin s (hi' ▸ h)
    have hi1 : items[((i : Nat) : Int).toNat]? = none := by simp; omega
    have hi2 : items2[((i : Nat) : Int).toNat]? = none := by simp; omega
    obtain ⟨hp, g, d, tk, os⟩ := s
    rcases hc with ⟨rfl, rfl⟩ | ⟨rfl, rfl⟩
    · wp_walk using wpAny_loadPart' hl1, wpAny_loadPart' hb1
      rw [hi1, hi2]
      wp_walk using wpAny_loadPart' hl1, wpAny_loadPart' hb1
      show R (.ok (.ret (.bool (items.size == items2.size)))) _
      rw [hs1, hs2]
      simpa using hR
    · wp_walk using wpAny_loadPart' hl1, wpAny_loadPart' hb1
      rw [hi1, hi2]
      wp_walk using wpAny_loadPart' hl1, wpAny_loadPart' hb1
      show R (.ok (.ret (.bool (items.size != items2.size)))) _
      rw [hs1, hs2]
      simpa using hR
  | succ k ih =>
    intro i hk hi s h
    obtain ⟨items, items2, n, n2, sl, sl2, hl1, hb1, hs1, hs2, turn⟩ := hl _ _ h
    have hlt : i < items.size := by omega
    have hlt2 : i < items2.size := by omega
    have ht := turn hlt hlt2
    have hi1 : items[((i : Nat) : Int).toNat]? = some items[i] := by simp [hlt]
    have hi2 : items2[((i : Nat) : Int).toNat]? = some items2[i] := by simp [hlt2]
    have hc' : ((i : Int) + 1) = ((i + 1 : Nat) : Int) := by omega
    obtain ⟨hp, g, d, tk, os⟩ := s
    rcases hc with ⟨rfl, rfl⟩ | ⟨rfl, rfl⟩
    all_goals
      wp_walk using wpAny_loadPart' hl1, wpAny_loadPart' hb1
      rw [hi1, hi2]
      refine wpAny_bind (wpAny_mono ht (fun r s2 h2 => ?_) fun _ _ x => x)
      cases r with
      | true =>
        have hrec := ih (i + 1) (by omega) (by omega) s2 h2
        obtain ⟨hp2, g2, d2, tk2, os2⟩ := s2
        wp_walk
        rw [hc']
        exact ⟨plainId_quiet plain_eq_loop _, codeAny_builtin entry_eq_loop (by
          rw [Around.under_plainId plain_eq_loop _]
          exact hrec)⟩
      | false =>
        obtain ⟨h2, hR⟩ := h2
        obtain ⟨items3, items4, n3, n4, sl3, sl4, hl3, hb3, hs3, hs4, _⟩ := hl _ _ h2
        have hj1 : items3[((i : Nat) : Int).toNat]? = some (items3[i]'(by omega)) := by (simp <;> omega)
        have hj2 : items4[((i : Nat) : Int).toNat]? = some (items4[i]'(by omega)) := by (simp <;> omega)
        obtain ⟨hp2, g2, d2, tk2, os2⟩ := s2
        wp_walk using wpAny_loadPart' hl3, wpAny_loadPart' hb3
        rw [hj1, hj2]
        wp_walk
        exact hR
theorem list_eqB (l b : Addr) (N : Nat) (I : Nat → Shared → Prop) (hl : ListB prog w A R false l b N I)
    (fin : ∀ s, I N s → R (.ok (.ret (.bool true))) s) {s : Shared} (h : I 0 s) :
    wpAny (model prog w) A.in1 (Builtin.«list.__eq__» ⟨[.ref l, .ref b], []⟩) (GQ.FinOf prog w A R) (fun e s' => R (.error e) s') s := by
  obtain ⟨items, items2, n, n2, sl, sl2, hl1, hb1, hs1, hs2, _⟩ := hl _ _ h
  have hrec := loopB (A := A) (R := R) 2 false (.inl ⟨rfl, rfl⟩) l b N I hl fin _ 0 rfl (Nat.zero_le _) s h
  obtain ⟨hp, g, d, tk, os⟩ := s
  have f3 := AutoSeq1.sub_list_list
  have hne : ¬ (items.size != items2.size) = true := by simp [hs1, hs2]
  wp_walk using wpAny_loadPart' hl1, wpAny_loadPart' hb1
  exact ⟨plainId_quiet plain_eq_loop _, codeAny_builtin entry_eq_loop (by
    rw [Around.under_plainId plain_eq_loop _]
    exact hrec)⟩
theorem list_neB (l b : Addr) (N : Nat) (I : Nat → Shared → Prop) (hl : ListB prog w A R true l b N I)
    (fin : ∀ s, I N s → R (.ok (.ret (.bool false))) s) {s : Shared} (h : I 0 s) :
    wpAny (model prog w) A.in1 (Builtin.«list.__ne__» ⟨[.ref l, .ref b], []⟩) (GQ.FinOf prog w A R) (fun e s' => R (.error e) s') s := by
  obtain ⟨items, items2, n, n2, sl, sl2, hl1, hb1, hs1, hs2, _⟩ := hl _ _ h
  have hrec := loopB (A := A) (R := R) 3 true (.inr ⟨rfl, rfl⟩) l b N I hl fin _ 0 rfl (Nat.zero_le _) s h
  obtain ⟨hp, g, d, tk, os⟩ := s
  have f3 := AutoSeq1.sub_list_list
  have hne : ¬ (items.size != items2.size) = true := by simp [hs1, hs2]
  wp_walk using wpAny_loadPart' hl1, wpAny_loadPart' hb1
  exact ⟨plainId_quiet plain_eq_loop _, codeAny_builtin entry_eq_loop (by
    rw [Around.under_plainId plain_eq_loop _]
    exact hrec)⟩
theorem tuple_eqB (l b : Addr) (items items2 : Array Value) (n n2 : Nat) (dd dd2 : Option Addr) (sl sl2 : Array (Option Value)) (I : Nat → Shared → Prop)
    (turn : ∀ i (h1 : i < items.size) (h2 : i < items2.size) s, I i s → wpAny (model prog w) A.in1 (eqBool items[i] items2[i]) (fun r s' => if r = true then I (i + 1) s' else R (.ok (.ret (.bool false))) s') (fun e s' => R (.error e) s') s)
    (fin : ∀ s, I (min items.size items2.size) s → R (.ok (.ret (.bool (items.size == items2.size)))) s) {s : Shared} (hl1 : s.heap.get? l = some { cls := .type "tuple", dict := dd, data := .seq items n, slots := sl }) (hb1 : s.heap.get? b = some { cls := .type "tuple", dict := dd2, data := .seq items2 n2, slots := sl2 }) (h : I 0 s) :
    wpAny (model prog w) A.in1 (Builtin.«tuple.__eq__» ⟨[.ref l, .ref b], []⟩) (GQ.FinOf prog w A R) (fun e s' => R (.error e) s') s := by
  have f2 := AutoSeq1.sub_tuple_tuple
  have hZ : (items.toList.zip items2.toList).length = min items.size items2.size := by simp
  have h0 := h
  obtain ⟨hp, g, d, tk, os⟩ := s
  wp_walk using wpAny_loadPart' hl1, wpAny_loadPart' hb1, wpAny_forIn_list _ (fun rest b s' => b.1 = none ∧ ∃ i, rest = (items.toList.zip items2.toList).drop i ∧ i ≤ min items.size items2.size ∧ I i s') _
  case turn =>
    rintro ⟨y, x⟩ rest b s' ⟨hb', i, hz, hi, hI⟩
    have hlt : i < (items.toList.zip items2.toList).length := by
      rcases Nat.lt_or_ge i (items.toList.zip items2.toList).length with h' | h'
      · exact h'
      · rw [List.drop_of_length_le h'] at hz; cases hz
    have h1 : i < items.size := by omega
    have h2 : i < items2.size := by omega
    rw [List.drop_eq_getElem_cons hlt] at hz
    injection hz with hyx hrest
    have hy : y = items[i] := by have := congrArg Prod.fst hyx; simpa using this
    have hx : x = items2[i] := by have := congrArg Prod.snd hyx; simpa using this
    subst hy hx
    refine wpAny_bind (wpAny_mono (turn i h1 h2 s' hI) (fun r s2 q2 => ?_) fun _ _ x => x)
    cases r with
    | true =>
      wp_walk
      exact ⟨rfl, i + 1, hrest, by omega, q2⟩
    | false =>
      wp_walk
      exact q2
  case fin =>
    rintro ⟨b1, b2⟩ s' ⟨hb', i, hz, hi, hI⟩
    simp only at hb'
    subst hb'
    have hge : min items.size items2.size ≤ i := by
      rcases Nat.lt_or_ge i (items.toList.zip items2.toList).length with h' | h'
      · rw [List.drop_eq_getElem_cons h'] at hz; cases hz
      · omega
    have hi' : i = min items.size items2.size := by omega
    have hR := fin s' (hi' ▸ hI)
    wp_walk
    simpa [Builtin.Tuple.tupleCompareSizes] using hR
  case h =>
    exact ⟨rfl, 0, rfl, Nat.zero_le _, h0⟩
theorem tuple_neB (l b : Addr) (items items2 : Array Value) (n n2 : Nat) (dd dd2 : Option Addr) (sl sl2 : Array (Option Value)) (I : Nat → Shared → Prop)
    (turn : ∀ i (h1 : i < items.size) (h2 : i < items2.size) s, I i s → wpAny (model prog w) A.in1 (eqBool items[i] items2[i]) (fun r s' => if r = true then I (i + 1) s' else R (.ok (.ret (.bool true))) s') (fun e s' => R (.error e) s') s)
    (fin : ∀ s, I (min items.size items2.size) s → R (.ok (.ret (.bool (items.size != items2.size)))) s) {s : Shared} (hl1 : s.heap.get? l = some { cls := .type "tuple", dict := dd, data := .seq items n, slots := sl }) (hb1 : s.heap.get? b = some { cls := .type "tuple", dict := dd2, data := .seq items2 n2, slots := sl2 }) (h : I 0 s) :
    wpAny (model prog w) A.in1 (Builtin.«tuple.__ne__» ⟨[.ref l, .ref b], []⟩) (GQ.FinOf prog w A R) (fun e s' => R (.error e) s') s := by
  have f2 := AutoSeq1.sub_tuple_tuple
  have hZ : (items.toList.zip items2.toList).length = min items.size items2.size := by simp
  have h0 := h
  obtain ⟨hp, g, d, tk, os⟩ := s
  wp_walk using wpAny_loadPart' hl1, wpAny_loadPart' hb1, wpAny_forIn_list _ (fun rest b s' => b.1 = none ∧ ∃ i, rest = (items.toList.zip items2.toList).drop i ∧ i ≤ min items.size items2.size ∧ I i s') _
  case turn =>
    rintro ⟨y, x⟩ rest b s' ⟨hb', i, hz, hi, hI⟩
    have hlt : i < (items.toList.zip items2.toList).length := by
      rcases Nat.lt_or_ge i (items.toList.zip items2.toList).length with h' | h'
      · exact h'
      · rw [List.drop_of_length_le h'] at hz; cases hz
    have h1 : i < items.size := by omega
    have h2 : i < items2.size := by omega
    rw [List.drop_eq_getElem_cons hlt] at hz
    injection hz with hyx hrest
    have hy : y = items[i] := by have := congrArg Prod.fst hyx; simpa using this
    have hx : x = items2[i] := by have := congrArg Prod.snd hyx; simpa using this
    subst hy hx
    refine wpAny_bind (wpAny_mono (turn i h1 h2 s' hI) (fun r s2 q2 => ?_) fun _ _ x => x)
    cases r with
    | true =>
      wp_walk
      exact ⟨rfl, i + 1, hrest, by omega, q2⟩
    | false =>
      wp_walk
      exact q2
  case fin =>
    rintro ⟨b1, b2⟩ s' ⟨hb', i, hz, hi, hI⟩
    simp only at hb'
    subst hb'
    have hge : min items.size items2.size ≤ i := by
      rcases Nat.lt_or_ge i (items.toList.zip items2.toList).length with h' | h'
      · rw [List.drop_eq_getElem_cons h'] at hz; cases hz
      · omega
    have hi' : i = min items.size items2.size := by omega
    have hR := fin s' (hi' ▸ hI)
    wp_walk
    simpa [Builtin.Tuple.tupleCompareSizes] using hR
  case h =>
    exact ⟨rfl, 0, rfl, Nat.zero_le _, h0⟩
end
end Wo
end
section
set_option Elab.async false
set_option linter.all false
set_option maxRecDepth 100000
set_option maxHeartbeats 4000000
/-! Wo, part I: == and != by what values stand for. -/
namespace Wo
open PySem PySem.Spec PyProof.Rows L2
/-- == inside a builtin answers whether the two data are equal -/
def EqB (X : Cx) (n : Nat) {α : Type} (R : Rl α) : Prop :=
  ∀ (A : Around) (pins : List (Addr × Obj)) (s : Shared) (σ : L2.St) (H : Hp) (x y : V) (u v : Value) (a b : α), Sub X n A → Inv X pins σ H s → RelV x u → RelV y v → R H x a → R H y b →
    wpAny (model X.prog X.w) A (eqBool u v) (fun r s' => (r = true ↔ a = b) ∧ ∃ H', Inv X pins σ H' s' ∧ Same H H') X.xe s
/-- the comparison itself -/
def RcB (X : Cx) (n : Nat) (op : CmpOp) (no : Bool) {α : Type} (R : Rl α) : Prop :=
  ∀ (A : Around) (pins : List (Addr × Obj)) (s : Shared) (σ : L2.St) (H : Hp) (x y : V) (u v : Value) (a b : α), Sub X n A → Inv X pins σ H s → RelV x u → RelV y v → R H x a → R H y b →
    wpAny (model X.prog X.w) A (richCompare op u v) (fun r s' => ∃ k, r = .bool k ∧ (k = (!no) ↔ a = b) ∧ ∃ H', Inv X pins σ H' s' ∧ Same H H') X.xe s
section
open PySem.SeqAt
open AutoSeq1 (wpAny_loadPart')
open MeetsSeq MeetsSeq2 MeetsSeq3 SeqRoads2
variable {prog : Program} {w : World} {A : Around} {R : Result → Shared → Prop}
theorem list_eqL (l b : Addr) (items items2 : Array Value) (n n2 : Nat) (sl sl2 : Array (Option Value)) (hd : (items.size != items2.size) = true) {s : Shared} (hl1 : s.heap.get? l = some { cls := .type "list", data := .seq items n, slots := sl }) (hb1 : s.heap.get? b = some { cls := .type "list", data := .seq items2 n2, slots := sl2 })
    (h : R (.ok (.ret (.bool false))) s) : wpAny (model prog w) A.in1 (Builtin.«list.__eq__» ⟨[.ref l, .ref b], []⟩) (GQ.FinOf prog w A R) (fun e s' => R (.error e) s') s := by
  obtain ⟨hp, g, d, tk, os⟩ := s
  have f3 := AutoSeq1.sub_list_list
  wp_walk using wpAny_loadPart' hl1, wpAny_loadPart' hb1
  exact h
theorem list_neL (l b : Addr) (items items2 : Array Value) (n n2 : Nat) (sl sl2 : Array (Option Value)) (hd : (items.size != items2.size) = true) {s : Shared} (hl1 : s.heap.get? l = some { cls := .type "list", data := .seq items n, slots := sl }) (hb1 : s.heap.get? b = some { cls := .type "list", data := .seq items2 n2, slots := sl2 })
    (h : R (.ok (.ret (.bool true))) s) : wpAny (model prog w) A.in1 (Builtin.«list.__ne__» ⟨[.ref l, .ref b], []⟩) (GQ.FinOf prog w A R) (fun e s' => R (.error e) s') s := by
  obtain ⟨hp, g, d, tk, os⟩ := s
  have f3 := AutoSeq1.sub_list_list
  wp_walk using wpAny_loadPart' hl1, wpAny_loadPart' hb1
  exact h
end
section
variable {X : Cx} {pins : List (Addr × Obj)} {σ : L2.St} {H : Hp} {s : Shared} {a : Addr} {xs : List V}
theorem _root_.L2.Inv.plist (I : Inv X pins σ H s) (h : SqL X.K H a xs) : ∃ (its : List Value) (n : Nat) (sl : Array (Option Value)), Vals xs its ∧ s.heap.get? a = some { cls := .type "list", data := .seq its.toArray n, slots := sl } := by
  obtain ⟨its, r, ⟨o, n, e, h1, h2, h3⟩, _⟩ := I.list h
  obtain ⟨cls, dict, data, sl⟩ := o
  simp only at h1 h2 h3
  subst h1 h2 h3
  exact ⟨its, n, sl, r, e⟩
end
/-- what a value stands for is settled by the heap -/
def FnRl (X : Cx) {α : Type} (R : Rl α) : Prop := ∀ (pins : List (Addr × Obj)) (s : Shared) (σ : L2.St) (H : Hp) (x : V) (a b : α), Inv X pins σ H s → R H x a → R H x b → a = b
section
variable {X : Cx} {n m : Nat} {α β : Type} {R : Rl α} {S : Rl β}
theorem EqB.mono (h : EqB X n R) (hn : n ≤ m) : EqB X m R := fun A pins s σ H x y u v a b sb => h A pins s σ H x y u v a b (sb.mono hn)
theorem fn_int : FnRl X RI := fun _ _ _ _ _ _ _ _ h1 h2 => V.int.inj (h1.symm.trans h2)
theorem fn_bool : FnRl X RB := fun _ _ _ _ _ _ _ _ h1 h2 => V.bl.inj (h1.symm.trans h2)
theorem fn_str : FnRl X RS := fun _ _ _ _ _ _ _ _ h1 h2 => V.str.inj (h1.symm.trans h2)
theorem paired_fn {P : V → α → Prop} (h : ∀ x a b, P x a → P x b → a = b) : ∀ {vs : List V} {as bs : List α}, Paired P vs as → Paired P vs bs → as = bs
  | _, _, _, .nil, .nil => rfl
  | _, _, _, .cons h1 t1, .cons h2 t2 => by rw [h _ _ _ h1 h2, paired_fn h t1 t2]
theorem fn_tup (h : FnRl X R) : FnRl X (RT X.K R) := fun pins s σ H x as bs I h1 h2 => by
  obtain ⟨p, vs, rfl, s1, r1, _⟩ := h1
  obtain ⟨q, ws, e, s2, r2, _⟩ := h2
  cases e
  have e := I.tuple_inj s1 s2
  subst e
  exact paired_fn (fun x a b => h pins s σ H x a b I) r1 r2
theorem fn_lst (h : FnRl X R) : FnRl X (RL X.K R) := fun pins s σ H x as bs I h1 h2 => by
  obtain ⟨p, vs, rfl, s1, r1, _⟩ := h1
  obtain ⟨q, ws, e, s2, r2, _⟩ := h2
  cases e
  have e := I.list_inj s1 s2
  subst e
  exact paired_fn (fun x a b => h pins s σ H x a b I) r1 r2
theorem fn_pair (h : FnRl X R) (h' : FnRl X S) : FnRl X (RP X.K R S) := fun pins s σ H x ⟨a, b⟩ ⟨c, d⟩ I h1 h2 => by
  obtain ⟨p, y, z, rfl, s1, r1, q1⟩ := h1
  obtain ⟨q, y', z', e, s2, r2, q2⟩ := h2
  cases e
  have e := I.tuple_inj s1 s2
  cases e
  exact Prod.ext (h pins s σ H _ _ _ I r1 r2) (h' pins s σ H _ _ _ I q1 q2)
theorem fn_rat {C : Addr} : FnRl X (RQ C) := fun pins s σ H x a b I h1 h2 => by
  obtain ⟨p, dx, rfl, s1⟩ := h1
  obtain ⟨q, dy, e, s2⟩ := h2
  cases e
  obtain ⟨_, sl, _, e1, r1, _⟩ := SlX.slt_at I s1
  obtain ⟨_, sl2, _, e2, r2, _⟩ := SlX.slt_at I s2
  rw [e1] at e2
  cases e2
  obtain ⟨u, hu, ru⟩ := r1 0 _ rfl
  obtain ⟨u', hu', ru'⟩ := r2 0 _ rfl
  obtain ⟨w, hw, rw_⟩ := r1 1 _ rfl
  obtain ⟨w', hw', rw'⟩ := r2 1 _ rfl
  rw [hu] at hu'
  cases hu'
  rw [hw] at hw'
  cases hw'
  have e1 := V.int.inj (ru.inj ru')
  have e2 := V.int.inj (rw_.inj rw')
  exact Rat.ext e2 (by omega)
theorem eqB_flat (hf : ∀ H x a, R H x a → flatV x = true) (he : ∀ H x y a b, R H x a → R H y b → (eqV x y = true ↔ a = b)) : EqB X 0 R := by
  intro A pins s σ H x y u v a b sb I rx ry h1 h2
  exact eqAt_V (A := A) (s := s) rx ry (hf H x a h1) (hf H y b h2) X.prog X.w X.xe _ ⟨he H x y a b h1 h2, H, I, Same.refl H⟩
theorem eqB_int : EqB X 0 RI := eqB_flat (fun H x a h => by rw [show x = _ from h]; rfl) fun H x y a b h1 h2 => by
  rw [show x = _ from h1, show y = _ from h2]
  exact beq_iff_eq
theorem eqB_bool : EqB X 0 RB := eqB_flat (fun H x a h => by rw [show x = _ from h]; rfl) fun H x y a b h1 h2 => by
  rw [show x = _ from h1, show y = _ from h2]
  exact beq_iff_eq
theorem eqB_str : EqB X 0 RS := eqB_flat (fun H x a h => by rw [show x = _ from h]; rfl) fun H x y a b h1 h2 => by
  rw [show x = _ from h1, show y = _ from h2]
  exact beq_iff_eq
theorem eqB_refs (hr : ∀ H x a, R H x a → ∃ p, x = .ref p) (hf : FnRl X R) (h : RcB X n .Eq false R) : EqB X n R := by
  intro A pins s σ H x y u v a b sb I rx ry h1 h2
  obtain ⟨p, rfl⟩ := hr H x a h1
  obtain ⟨q, rfl⟩ := hr H y b h2
  cases rx
  cases ry
  by_cases hab : p = q
  · subst hab
    have e := hf pins s σ H _ _ _ I h1 h2
    exact SeqAt.EqAt.same (A := A) (s := s) (.ref p) X.prog X.w X.xe _ ⟨⟨fun _ => e, fun _ => rfl⟩, H, I, Same.refl H⟩
  · refine GQ.eqBool_refG hab (wpAny_mono (h A pins s σ H (.ref p) (.ref q) _ _ a b sb I rfl rfl h1 h2) (fun r s' z => ?_) fun _ _ x => x)
    obtain ⟨k, e, hk, H', I', e'⟩ := z
    exact ⟨k, e, hk, H', I', e'⟩
/-- one turn of a loop over the items -/
theorem turnB {as bs : List α} {pins : List (Addr × Obj)} {σ : L2.St} {H : Hp} {xs ys : List V} {its its2 : List Value} [Up R] (h : EqB X n R) {A : Around} (sb : Sub X (n + 1) A) (r1 : RAll R H xs as) (r2 : RAll R H ys bs) (r : Vals xs its) (r' : Vals ys its2)
    (i : Nat) (h1 : i < its.toArray.size) (h2 : i < its2.toArray.size) (s' : Shared) (l : ∃ H', Inv X pins σ H' s' ∧ Same H H') :
    wpAny (model X.prog X.w) A.in1 (eqBool its.toArray[i] its2.toArray[i]) (fun r s2 => (r = true ↔ as[i]? = bs[i]?) ∧ ∃ H', Inv X pins σ H' s2 ∧ Same H H') X.xe s' := by
  obtain ⟨H1, I1, e1⟩ := l
  have g1 : its[i]? = some its.toArray[i] := by
    have h1' : i < its.length := by simpa using h1
    rw [List.getElem?_eq_getElem h1'] <;> simp
  have g2 : its2[i]? = some its2.toArray[i] := by
    have h2' : i < its2.length := by simpa using h2
    rw [List.getElem?_eq_getElem h2'] <;> simp
  have k1 : i < xs.length := by rw [r.length]; simpa using h1
  have k2 : i < ys.length := by rw [r'.length]; simpa using h2
  obtain ⟨u, hu, ru⟩ := r.get (List.getElem?_eq_getElem k1)
  obtain ⟨v, hv, rv⟩ := r'.get (List.getElem?_eq_getElem k2)
  rw [g1] at hu
  rw [g2] at hv
  rw [Option.some.inj hu, Option.some.inj hv]
  obtain ⟨a, ha, ra⟩ := r1.get (List.getElem?_eq_getElem k1)
  obtain ⟨b, hb, rb⟩ := r2.get (List.getElem?_eq_getElem k2)
  refine wpAny_mono (h A.in1 pins s' σ H1 _ _ u v a b sb.in1 I1 ru rv (Up.up e1 ra) (Up.up e1 rb)) (fun r s2 q => ?_) fun _ _ x => x
  obtain ⟨hr, H2, I2, e2⟩ := q
  refine ⟨?_, H2, I2, e1.trans e2⟩
  rw [hr, ha, hb]
  exact ⟨fun z => congrArg _ z, fun z => Option.some.inj z⟩
theorem take_succ_eq {as bs : List α} {i : Nat} (h : as.take i = bs.take i) (e : as[i]? = bs[i]?) : as.take (i + 1) = bs.take (i + 1) := by
  rw [List.take_succ, List.take_succ, h, e]
theorem take_min_eq {as bs : List α} (h : as.take (min as.length bs.length) = bs.take (min as.length bs.length)) : as.length = bs.length ↔ as = bs := by
  constructor
  · intro e
    rw [e, Nat.min_self, List.take_of_length_le (by omega), List.take_of_length_le (by omega)] at h
    exact h
  · intro e
    rw [e]
theorem rcB_tup [Up R] (h : EqB X n R) : RcB X (n + 1) .Eq false (RT X.K R) := by
  intro A pins s σ H x y u v as bs sb I rx ry h1 h2
  obtain ⟨p, xs, rfl, sq1, r1, z1⟩ := h1
  obtain ⟨q, ys, rfl, sq2, r2, z2⟩ := h2
  cases rx
  cases ry
  obtain ⟨its, v1, e1, _⟩ := I.tuple sq1
  obtain ⟨its2, v2, e2, _⟩ := I.tuple sq2
  have l1 : its.toArray.size = as.length := by rw [List.size_toArray, ← v1.length, r1.len]
  have l2 : its2.toArray.size = bs.length := by rw [List.size_toArray, ← v2.length, r2.len]
  obtain ⟨⟨cls, dd, data, sl⟩, ho, hc, m1, hd⟩ := id e1
  obtain ⟨⟨cls2, dd2, data2, sl2⟩, ho2, hc2, m2, hd2⟩ := id e2
  simp only at hc hd hc2 hd2
  subst hc hd hc2 hd2
  refine wpAny_richCompare_same_room (op := .Eq) ⟨_, ho, rfl⟩ ⟨_, ho2, rfl⟩ F.slot_tuple_eq (GQ.call_here F.slot_tuple_eq ⟨_, ho, rfl⟩ F.entry_tuple_eq (F.args_tuple_eq_2 _ _) ?_) sb.room.units0
  refine tuple_eqB (R := wants (fun v s' => v ≠ .notImplemented ∧ ∃ k, v = .bool k ∧ (k = (!false) ↔ as = bs) ∧ ∃ H', Inv X pins σ H' s' ∧ Same H H') X.xe) p q its.toArray its2.toArray m1 m2 dd dd2 sl sl2 (fun i s' => as.take i = bs.take i ∧ ∃ H', Inv X pins σ H' s' ∧ Same H H') (fun i k1 k2 s' l => ?_) (fun s' l => ?_) ho ho2 ⟨rfl, H, I, Same.refl H⟩
  · refine wpAny_mono (turnB h sb r1 r2 v1 v2 i k1 k2 s' l.2) (fun r s2 z => ?_) fun _ _ x => x
    obtain ⟨hr, z⟩ := z
    cases r with
    | true => exact ⟨take_succ_eq l.1 (hr.mp rfl), z⟩
    | false =>
      refine ⟨(fun x => nomatch x), false, rfl, ⟨(fun x => nomatch x), fun e => ?_⟩, z⟩
      subst e
      exact absurd (hr.mpr rfl) Bool.false_ne_true
  · refine ⟨(fun x => nomatch x), _, rfl, ?_, l.2⟩
    rw [l1, l2] at l ⊢
    rw [← take_min_eq l.1]
    exact beq_iff_eq
theorem rcB_tupN [Up R] (h : EqB X n R) : RcB X (n + 1) .NotEq true (RT X.K R) := by
  intro A pins s σ H x y u v as bs sb I rx ry h1 h2
  obtain ⟨p, xs, rfl, sq1, r1, z1⟩ := h1
  obtain ⟨q, ys, rfl, sq2, r2, z2⟩ := h2
  cases rx
  cases ry
  obtain ⟨its, v1, e1, _⟩ := I.tuple sq1
  obtain ⟨its2, v2, e2, _⟩ := I.tuple sq2
  have l1 : its.toArray.size = as.length := by rw [List.size_toArray, ← v1.length, r1.len]
  have l2 : its2.toArray.size = bs.length := by rw [List.size_toArray, ← v2.length, r2.len]
  obtain ⟨⟨cls, dd, data, sl⟩, ho, hc, m1, hd⟩ := id e1
  obtain ⟨⟨cls2, dd2, data2, sl2⟩, ho2, hc2, m2, hd2⟩ := id e2
  simp only at hc hd hc2 hd2
  subst hc hd hc2 hd2
  refine wpAny_richCompare_same_room (op := .NotEq) ⟨_, ho, rfl⟩ ⟨_, ho2, rfl⟩ F.slot_tuple_ne (GQ.call_here F.slot_tuple_ne ⟨_, ho, rfl⟩ F.entry_tuple_ne (F.args_tuple_ne_2 _ _) ?_) sb.room.units0
  refine tuple_neB (R := wants (fun v s' => v ≠ .notImplemented ∧ ∃ k, v = .bool k ∧ (k = (!true) ↔ as = bs) ∧ ∃ H', Inv X pins σ H' s' ∧ Same H H') X.xe) p q its.toArray its2.toArray m1 m2 dd dd2 sl sl2 (fun i s' => as.take i = bs.take i ∧ ∃ H', Inv X pins σ H' s' ∧ Same H H') (fun i k1 k2 s' l => ?_) (fun s' l => ?_) ho ho2 ⟨rfl, H, I, Same.refl H⟩
  · refine wpAny_mono (turnB h sb r1 r2 v1 v2 i k1 k2 s' l.2) (fun r s2 z => ?_) fun _ _ x => x
    obtain ⟨hr, z⟩ := z
    cases r with
    | true => exact ⟨take_succ_eq l.1 (hr.mp rfl), z⟩
    | false =>
      refine ⟨(fun x => nomatch x), true, rfl, ⟨(fun x => nomatch x), fun e => ?_⟩, z⟩
      subst e
      exact absurd (hr.mpr rfl) Bool.false_ne_true
  · refine ⟨(fun x => nomatch x), _, rfl, ?_, l.2⟩
    rw [l1, l2] at l ⊢
    rw [← take_min_eq l.1]
    show ((as.length != bs.length) = false) ↔ _
    exact bne_eq_false_iff_eq

theorem rcB_lst [Up R] (h : EqB X n R) : RcB X (n + 1) .Eq false (RL X.K R) := by
  intro A pins s σ H x y u v as bs sb I rx ry h1 h2
  obtain ⟨p, xs, rfl, sq1, r1, z1⟩ := h1
  obtain ⟨q, ys, rfl, sq2, r2, z2⟩ := h2
  cases rx
  cases ry
  have look : ∀ s' : Shared, (∃ H', Inv X pins σ H' s' ∧ Same H H') → ∃ its its2 m1 m2 sl1 sl2, Vals xs its ∧ Vals ys its2 ∧ s'.heap.get? p = some { cls := .type "list", data := .seq its.toArray m1, slots := sl1 } ∧ s'.heap.get? q = some { cls := .type "list", data := .seq its2.toArray m2, slots := sl2 } := fun s' ⟨H', I', e'⟩ => by
    obtain ⟨its, m1, sl1, v1, e1⟩ := I'.plist (e'.seq sq1)
    obtain ⟨its2, m2, sl2, v2, e2⟩ := I'.plist (e'.seq sq2)
    exact ⟨its, its2, m1, m2, sl1, sl2, v1, v2, e1, e2⟩
  obtain ⟨its0, its02, m01, m02, s01, s02, v01, v02, e01, e02⟩ := look s ⟨H, I, Same.refl H⟩
  have l1 : its0.toArray.size = as.length := by rw [List.size_toArray, ← v01.length, r1.len]
  have l2 : its02.toArray.size = bs.length := by rw [List.size_toArray, ← v02.length, r2.len]
  refine wpAny_richCompare_same_room (op := .Eq) ⟨_, e01, rfl⟩ ⟨_, e02, rfl⟩ F.slot_list_eq (GQ.call_here F.slot_list_eq ⟨_, e01, rfl⟩ F.entry_list_eq (F.args_list_eq_2 _ _) ?_) sb.room.units0
  by_cases hl : as.length = bs.length
  · refine list_eqB (R := wants (fun v s' => v ≠ .notImplemented ∧ ∃ k, v = .bool k ∧ (k = (!false) ↔ as = bs) ∧ ∃ H', Inv X pins σ H' s' ∧ Same H H') X.xe) p q as.length (fun i s' => as.take i = bs.take i ∧ ∃ H', Inv X pins σ H' s' ∧ Same H H') (fun i s' l => ?_) (fun s' l => ?_) ⟨rfl, H, I, Same.refl H⟩
    · obtain ⟨its, its2, m1, m2, sl1, sl2, v1, v2, e1, e2⟩ := look s' l.2
      refine ⟨its.toArray, its2.toArray, m1, m2, sl1, sl2, e1, e2, by rw [List.size_toArray, ← v1.length, r1.len], by rw [List.size_toArray, ← v2.length, r2.len, hl], fun k1 k2 => ?_⟩
      refine wpAny_mono (turnB h sb r1 r2 v1 v2 i k1 k2 s' l.2) (fun r s2 z => ?_) fun _ _ x => x
      obtain ⟨hr, z⟩ := z
      cases r with
      | true => exact ⟨take_succ_eq l.1 (hr.mp rfl), z⟩
      | false =>
        refine ⟨⟨l.1, z⟩, (fun x => nomatch x), false, rfl, ⟨(fun x => nomatch x), fun e => ?_⟩, z⟩
        subst e
        exact absurd (hr.mpr rfl) Bool.false_ne_true
    · refine ⟨(fun x => nomatch x), !false, rfl, ⟨fun _ => ?_, fun _ => rfl⟩, l.2⟩
      have := l.1
      rw [List.take_of_length_le (by omega), List.take_of_length_le (by omega)] at this
      exact this
  · have hd : (its0.toArray.size != its02.toArray.size) = true := by rw [l1, l2]; exact bne_iff_ne.mpr hl
    refine list_eqL p q _ _ m01 m02 s01 s02 hd e01 e02 ⟨(fun x => nomatch x), false, rfl, ⟨fun x => (nomatch x), fun e => ?_⟩, H, I, Same.refl H⟩
    exact absurd (by rw [e]) hl

theorem rcB_lstN [Up R] (h : EqB X n R) : RcB X (n + 1) .NotEq true (RL X.K R) := by
  intro A pins s σ H x y u v as bs sb I rx ry h1 h2
  obtain ⟨p, xs, rfl, sq1, r1, z1⟩ := h1
  obtain ⟨q, ys, rfl, sq2, r2, z2⟩ := h2
  cases rx
  cases ry
  have look : ∀ s' : Shared, (∃ H', Inv X pins σ H' s' ∧ Same H H') → ∃ its its2 m1 m2 sl1 sl2, Vals xs its ∧ Vals ys its2 ∧ s'.heap.get? p = some { cls := .type "list", data := .seq its.toArray m1, slots := sl1 } ∧ s'.heap.get? q = some { cls := .type "list", data := .seq its2.toArray m2, slots := sl2 } := fun s' ⟨H', I', e'⟩ => by
    obtain ⟨its, m1, sl1, v1, e1⟩ := I'.plist (e'.seq sq1)
    obtain ⟨its2, m2, sl2, v2, e2⟩ := I'.plist (e'.seq sq2)
    exact ⟨its, its2, m1, m2, sl1, sl2, v1, v2, e1, e2⟩
  obtain ⟨its0, its02, m01, m02, s01, s02, v01, v02, e01, e02⟩ := look s ⟨H, I, Same.refl H⟩
  have l1 : its0.toArray.size = as.length := by rw [List.size_toArray, ← v01.length, r1.len]
  have l2 : its02.toArray.size = bs.length := by rw [List.size_toArray, ← v02.length, r2.len]
  refine wpAny_richCompare_same_room (op := .NotEq) ⟨_, e01, rfl⟩ ⟨_, e02, rfl⟩ F.slot_list_ne (GQ.call_here F.slot_list_ne ⟨_, e01, rfl⟩ F.entry_list_ne (F.args_list_ne_2 _ _) ?_) sb.room.units0
  by_cases hl : as.length = bs.length
  · refine list_neB (R := wants (fun v s' => v ≠ .notImplemented ∧ ∃ k, v = .bool k ∧ (k = (!true) ↔ as = bs) ∧ ∃ H', Inv X pins σ H' s' ∧ Same H H') X.xe) p q as.length (fun i s' => as.take i = bs.take i ∧ ∃ H', Inv X pins σ H' s' ∧ Same H H') (fun i s' l => ?_) (fun s' l => ?_) ⟨rfl, H, I, Same.refl H⟩
    · obtain ⟨its, its2, m1, m2, sl1, sl2, v1, v2, e1, e2⟩ := look s' l.2
      refine ⟨its.toArray, its2.toArray, m1, m2, sl1, sl2, e1, e2, by rw [List.size_toArray, ← v1.length, r1.len], by rw [List.size_toArray, ← v2.length, r2.len, hl], fun k1 k2 => ?_⟩
      refine wpAny_mono (turnB h sb r1 r2 v1 v2 i k1 k2 s' l.2) (fun r s2 z => ?_) fun _ _ x => x
      obtain ⟨hr, z⟩ := z
      cases r with
      | true => exact ⟨take_succ_eq l.1 (hr.mp rfl), z⟩
      | false =>
        refine ⟨⟨l.1, z⟩, (fun x => nomatch x), true, rfl, ⟨(fun x => nomatch x), fun e => ?_⟩, z⟩
        subst e
        exact absurd (hr.mpr rfl) Bool.false_ne_true
    · refine ⟨(fun x => nomatch x), !true, rfl, ⟨fun _ => ?_, fun _ => rfl⟩, l.2⟩
      have := l.1
      rw [List.take_of_length_le (by omega), List.take_of_length_le (by omega)] at this
      exact this
  · have hd : (its0.toArray.size != its02.toArray.size) = true := by rw [l1, l2]; exact bne_iff_ne.mpr hl
    refine list_neL p q _ _ m01 m02 s01 s02 hd e01 e02 ⟨(fun x => nomatch x), true, rfl, ⟨fun x => (nomatch x), fun e => ?_⟩, H, I, Same.refl H⟩
    exact absurd (by rw [e]) hl

theorem pair_list {K : PySem.W.Frag} {R : Rl α} {H : Hp} {x : V} {a b : α} (h : RP K R R H x (a, b)) : RT K R H x [a, b] := by
  obtain ⟨p, y, z, rfl, s, r1, r2⟩ := h
  exact ⟨p, _, rfl, s, .cons r1 (.cons r2 .nil), by show 2 ≤ sizeLine; decide⟩
theorem eqB_tup [Up R] (hf : FnRl X R) (h : EqB X n R) : EqB X (n + 1) (RT X.K R) := eqB_refs (fun _ _ _ ⟨p, _, e, _⟩ => ⟨p, e⟩) (fn_tup hf) (rcB_tup h)
theorem eqB_lst [Up R] (hf : FnRl X R) (h : EqB X n R) : EqB X (n + 1) (RL X.K R) := eqB_refs (fun _ _ _ ⟨p, _, e, _⟩ => ⟨p, e⟩) (fn_lst hf) (rcB_lst h)
end
end Wo
end
section
set_option Elab.async false
set_option linter.all false
set_option maxRecDepth 100000
set_option maxHeartbeats 4000000
set_option exponentiation.threshold 20000
/-! Wo, part J: comparison of data as expressions; properties; lcm; defaults; star; comprehensions and loops in use. -/
namespace Wo
open PySem PySem.Spec PyProof.Rows L2

/-! ### a class's own == over ratios -/
/-- what the own == of the ratios promises -/
def sp_eqQ (C : Addr) : Sp := sp2 fun x y H Q _ => ∃ p q : Rat, RQ C H x p ∧ RQ C H y q ∧ Q (.bl (decide (p = q))) H
section
variable {X : Cx} {n m : Nat} {α β : Type} {R : Rl α} {S : Rl β} {C g : Addr}
theorem rcB_rat (F : FnR X.prog X.w X.K X.mg X.base (CXW X.prog X.w) n g (sp_eqQ C)) (O : OwnM X.K C "__eq__" g) : RcB X n .Eq false (RQ C) := by
  intro A pins s σ H x y u v a b sb I rx ry h1 h2
  obtain ⟨p, dx, rfl, s1⟩ := id h1
  obtain ⟨q, dy, rfl, s2⟩ := id h2
  cases rx
  cases ry
  obtain ⟨sl, od, _, J, _⟩ := SlX.slt_inst I s1
  obtain ⟨sl', od', _, J', _⟩ := SlX.slt_inst I s2
  obtain ⟨m, hF⟩ := I.fr
  have e0 : Env0 X.prog X.w X.K X.mg X.base A X.stack s H := by
    have e := I.env0
    exact ⟨by rw [sb.fr]; exact e.frames, e.mod, e.bs, e.bsz, e.funs, e.frf, e.hok, e.bare⟩
  refine PySem.W.cmp_K (op := .Eq) (tb := .ref C) sb.room.units0 hF I.ok.mod.kin J J'.type (by simp [PySem.W.notFirst]) O.at_ O.fn ?_
  refine wpAny_mono (wpAny_call (SlX.run_at (A := A) (us := [.ref p, .ref q]) (ws := [.ref p, .ref q]) (Q := fun v H' => v = .bl (decide (a = b)) ∧ H' = H) (E := E0) F sb.room e0 passF I (.cons rfl (.cons rfl .nil)) ⟨_, _, rfl, a, b, h1, h2, rfl, rfl⟩)) (fun w s' z => ?_) fun _ _ x => x
  obtain ⟨z', H', I', rz, ez, eH⟩ := z
  subst ez eH
  cases (show w = Value.bool _ from rz)
  exact ⟨_, rfl, decide_eq_true_iff, H', I', Same.refl _⟩
theorem RcB.mono {op : CmpOp} {no : Bool} (h : RcB X n op no R) (hn : n ≤ m) : RcB X m op no R := fun A pins s σ H x y u v a b sb => h A pins s σ H x y u v a b (sb.mono hn)
theorem eqB_rat (F : FnR X.prog X.w X.K X.mg X.base (CXW X.prog X.w) n g (sp_eqQ C)) (O : OwnM X.K C "__eq__" g) : EqB X n (RQ C) := eqB_refs (fun _ _ _ ⟨p, _, e, _⟩ => ⟨p, e⟩) fn_rat (rcB_rat F O)
end
/-- the frame of a text, whatever body runs -/
structure Lk (P : Program) (w : World) (K : PySem.W.Frag) (mg : Str → Option Value) (base : Heap) (X : Cx) : Prop where
  p : X.prog = P
  w : X.w = w
  k : X.K = K
  m : X.mg = mg
  b : X.base = base
/-- comparisons of such data are known, at n levels -/
def EqC (P : Program) (w : World) (K : PySem.W.Frag) (mg : Str → Option Value) (base : Heap) (n : Nat) {α : Type} (R : Rl α) : Prop := ∀ X : Cx, Lk P w K mg base X → RcB X n .Eq false R
def NeC (P : Program) (w : World) (K : PySem.W.Frag) (mg : Str → Option Value) (base : Heap) (n : Nat) {α : Type} (R : Rl α) : Prop := ∀ X : Cx, Lk P w K mg base X → RcB X n .NotEq true R
def EiC (P : Program) (w : World) (K : PySem.W.Frag) (mg : Str → Option Value) (base : Heap) (n : Nat) {α : Type} (R : Rl α) : Prop := ∀ X : Cx, Lk P w K mg base X → EqB X n R ∧ FnRl X R
/-- x == y, x != y of data -/
def rEqX (P : Program) (w : World) (K : PySem.W.Frag) (mg : Str → Option Value) (base : Heap) (n : Nat) : R2 := fun x y H Q => ∃ (α : Type) (_ : DecidableEq α) (R : Rl α) (a b : α), EqC P w K mg base n R ∧ R H x a ∧ R H y b ∧ ∀ H', Same H H' → Q (.bl (decide (a = b))) H'
def rNeX (P : Program) (w : World) (K : PySem.W.Frag) (mg : Str → Option Value) (base : Heap) (n : Nat) : R2 := fun x y H Q => ∃ (α : Type) (_ : DecidableEq α) (R : Rl α) (a b : α), NeC P w K mg base n R ∧ R H x a ∧ R H y b ∧ ∀ H', Same H H' → Q (.bl (!decide (a = b))) H'
section
variable {X : Cx} {n m : Nat} {α β : Type} {R : Rl α} {S : Rl β} {C g : Addr} (P : Program) (w : World) (K : PySem.W.Frag) (mg : Str → Option Value) (base : Heap)
theorem eqX (hr : Room n X.A) (hl : Lk P w K mg base X := by exact ⟨rfl, rfl, rfl, rfl, rfl⟩) : OpR X (compareOp .Eq) (rEqX P w K mg base n) := by
  intro pins s σ H x y v u Q I rx ry hq
  obtain ⟨α, _, R, a, b, c, h1, h2, q⟩ := hq
  show wpAny (model X.prog X.w) X.A (richCompare .Eq v u) (EP X pins σ Q) X.xe s
  refine wpAny_mono (c X hl X.A pins s σ H x y v u a b ⟨hr, rfl⟩ I rx ry h1 h2) (fun r s' z => ?_) fun _ _ x => x
  obtain ⟨k, rfl, hk, H', I', e⟩ := z
  refine ⟨.bl k, H', I', rfl, ?_⟩
  have ek : k = decide (a = b) := by
    by_cases hab : a = b
    · rw [decide_eq_true hab]
      exact hk.mpr hab
    · rw [decide_eq_false hab]
      exact Bool.eq_false_iff.mpr fun z => hab (hk.mp z)
  rw [ek]
  exact q H' e
theorem neX (hr : Room n X.A) (hl : Lk P w K mg base X := by exact ⟨rfl, rfl, rfl, rfl, rfl⟩) : OpR X (compareOp .NotEq) (rNeX P w K mg base n) := by
  intro pins s σ H x y v u Q I rx ry hq
  obtain ⟨α, _, R, a, b, c, h1, h2, q⟩ := hq
  show wpAny (model X.prog X.w) X.A (richCompare .NotEq v u) (EP X pins σ Q) X.xe s
  refine wpAny_mono (c X hl X.A pins s σ H x y v u a b ⟨hr, rfl⟩ I rx ry h1 h2) (fun r s' z => ?_) fun _ _ x => x
  obtain ⟨k, rfl, hk, H', I', e⟩ := z
  refine ⟨.bl k, H', I', rfl, ?_⟩
  have ek : k = !decide (a = b) := by
    by_cases hab : a = b
    · rw [decide_eq_true hab]
      exact hk.mpr hab
    · rw [decide_eq_false hab]
      cases k with
      | true => rfl
      | false => exact absurd (hk.mp rfl) hab
  rw [ek]
  exact q H' e
end
section
variable {n m : Nat} {α β : Type} {R : Rl α} {S : Rl β} {C g : Addr} {P : Program} {w : World} {K : PySem.W.Frag} {mg : Str → Option Value} {base : Heap}
theorem ei_int : EiC P w K mg base n RI := fun X h => ⟨eqB_int.mono (Nat.zero_le n), fn_int⟩
theorem ei_bool : EiC P w K mg base n RB := fun X h => ⟨eqB_bool.mono (Nat.zero_le n), fn_bool⟩
theorem ei_str : EiC P w K mg base n RS := fun X h => ⟨eqB_str.mono (Nat.zero_le n), fn_str⟩
theorem ei_rat (F : FnR P w K mg base (CXW P w) m g (sp_eqQ C)) (O : OwnM K C "__eq__" g) (h : m ≤ n) : EiC P w K mg base n (RQ C) := fun X l => by
  obtain ⟨rfl, rfl, rfl, rfl, rfl⟩ := l
  exact ⟨(eqB_rat F O).mono h, fn_rat⟩
theorem ec_rat (F : FnR P w K mg base (CXW P w) m g (sp_eqQ C)) (O : OwnM K C "__eq__" g) (h : m ≤ n) : EqC P w K mg base n (RQ C) := fun X l => by
  obtain ⟨rfl, rfl, rfl, rfl, rfl⟩ := l
  exact (rcB_rat F O).mono h
theorem ei_tup [Up R] (h : EiC P w K mg base n R) : EiC P w K mg base (n + 1) (RT K R) := fun X l => by
  obtain rfl := l.k
  exact ⟨eqB_tup (h X l).2 (h X l).1, fn_tup (h X l).2⟩
theorem ei_lst [Up R] (h : EiC P w K mg base n R) : EiC P w K mg base (n + 1) (RL K R) := fun X l => by
  obtain rfl := l.k
  exact ⟨eqB_lst (h X l).2 (h X l).1, fn_lst (h X l).2⟩
theorem ec_tup [Up R] (h : EiC P w K mg base n R) : EqC P w K mg base (n + 1) (RT K R) := fun X l => by
  obtain rfl := l.k
  exact rcB_tup (h X l).1
theorem ec_lst [Up R] (h : EiC P w K mg base n R) : EqC P w K mg base (n + 1) (RL K R) := fun X l => by
  obtain rfl := l.k
  exact rcB_lst (h X l).1
theorem nc_tup [Up R] (h : EiC P w K mg base n R) : NeC P w K mg base (n + 1) (RT K R) := fun X l => by
  obtain rfl := l.k
  exact rcB_tupN (h X l).1
theorem nc_lst [Up R] (h : EiC P w K mg base n R) : NeC P w K mg base (n + 1) (RL K R) := fun X l => by
  obtain rfl := l.k
  exact rcB_lstN (h X l).1
end
section
variable {n : Nat} {α : Type} [DecidableEq α] {R : Rl α} {H : Hp} {Q : VK} {x y : V} {a b : α} {P : Program} {w : World} {K : PySem.W.Frag} {mg : Str → Option Value} {base : Heap}
theorem rd_eqX (c : EqC P w K mg base n R) (h1 : R H x a) (h2 : R H y b) (q : ∀ H', Same H H' → Q (.bl (decide (a = b))) H') : rEqX P w K mg base n x y H Q := ⟨α, inferInstance, R, a, b, c, h1, h2, q⟩
theorem rd_neX (c : NeC P w K mg base n R) (h1 : R H x a) (h2 : R H y b) (q : ∀ H', Same H H' → Q (.bl (!decide (a = b))) H') : rNeX P w K mg base n x y H Q := ⟨α, inferInstance, R, a, b, c, h1, h2, q⟩
end

/-! ### rules that name the frag -/
section
variable (K : PySem.W.Frag) {X : Cx}
theorem kIxT (h : X.K = K := by rfl) : IxR X (rIxT K) := by subst h; exact ix_tup
theorem kIxL (h : X.K = K := by rfl) : IxR X (rIxL K) := by subst h; exact ix_list
theorem kLen (h : X.K = K := by rfl) : CallR X (.builtin "len") (rLen K) := by subst h; exact bi_len
theorem kTuple (h : X.K = K := by rfl) : CallR X (.type "tuple") (rTupOf K) := by subst h; exact bi_tuple
theorem kList (h : X.K = K := by rfl) : CallR X (.type "list") (rLstOf K) := by subst h; exact bi_list
theorem kIsi (h : X.K = K := by rfl) : CallR X (.builtin "isinstance") (rIsiA K) := by subst h; exact isi
theorem kAll (hc : X.calm = true := by rfl) (h : X.K = K := by rfl) : CallR X (.builtin "all") (rAll K) := by subst h; exact cr_all hc
theorem kAny (hc : X.calm = true := by rfl) (h : X.K = K := by rfl) : CallR X (.builtin "any") (rAny K) := by subst h; exact cr_any hc
theorem kSum (hc : X.calm = true := by rfl) (h : X.K = K := by rfl) : CallR X (.builtin "sum") (rSum K) := by subst h; exact cr_sum hc
theorem kCatA (h : X.K = K := by rfl) : OpR X (binaryOp .Add) (rCatA K) := by subst h; exact op_catA
theorem kInSeq (h : X.K = K := by rfl) : OpR X (compareOp .In) (rIn K false) := by subst h; exact op_in_seq
variable {e l : Expr} {ta tl : TE} {tx : TA} {f : Str} {pos p tpos : Pos} {tg : Expr}
theorem kSl (he : PE X e ta) (hb : attributeBase e f X.env (eval e X.env) = eval e X.env := by rfl) (h : X.K = K := by rfl) : PE X (.Attribute e f pos) (SlX.tSl K ta f) := by subst h; exact SlX.pe_sl he hb
theorem kPiL (hl : PE X l tl) (h : X.K = K := by rfl) : PI X tg l (iList K tl) := by subst h; exact pi_list hl
theorem kPiT (hl : PE X l tl) (h : X.K = K := by rfl) : PI X tg l (iTup K tl) := by subst h; exact pi_tup hl
theorem kZip {e e2 : Expr} {elts : List Expr} {kk : Nat} (hg : Gl X "zip") (hm : X.mg "zip" = none) (ha : PA X [e, e2] tx)
    (hs : starEach [e, e2] X.env = (false, eval e X.env) :: starEach [e2] X.env := by rfl) (hpl : (backTo pos (starEach [e2] X.env)).any (·.1) = false := by rfl) (h : X.K = K := by rfl) :
    PI X (.Tuple elts kk tpos) (.Call (.Name "zip" p) [e, e2] [] pos) (iZip K tx) := by subst h; exact pi_zip hg hm ha hs hpl
theorem kTup {es : List Expr} {k : Nat} {t : TGs} {n : Nat} (hc : X.calm = true) (h : PGs X es t)
    (hn : (assignEach es X.env).length = n := by rfl) (hst : (assignEach es X.env).findIdx? (·.1) = none := by rfl) (hK : X.K = K := by rfl) : PG X (.Tuple es k pos) (gTup K n t) := by subst hK; exact pg_tup hc h hn hst
end

/-! ### properties -/
def Prp (P : Program) (w : World) (K : PySem.W.Frag) (mg : Str → Option Value) (base : Heap) (k : Nat) (C : Addr) (f : Str) (sp : Sp) : Prop :=
  ∃ g, PropM K C f g ∧ SlX.SCls K C ∧ FnR P w K mg base (CXW P w) k g sp
section
variable {X : Cx} {k j : Nat} {sp : Sp} {C : Addr} {f : Str} {pos : Pos} {e : Expr} {ta : TE}
theorem pp (c : Prp X.prog X.w X.K X.mg X.base k C f sp) (hr : Room j X.A) (he : PE X e ta) (hk : k + 1 ≤ j := by decide) (hb : attributeBase e f X.env (eval e X.env) = eval e X.env := by rfl) : PE X (.Attribute e f pos) (SlX.tPropSl C sp E0 ta) := by
  obtain ⟨g, ⟨p, h1, h2, h3, h4⟩, hc, F⟩ := c
  exact SlX.pe_propSl he hc h1 h2 h3 h4 F (hr.mono hk) passF' hb
end
theorem rd_prop {C : Addr} {sp : Sp} {E : XK} {ta : TE} {σ : L2.St} {H : Hp} {Q : VK} (q : ta σ H fun x H1 => ∃ a dx vs, x = .ref a ∧ SlX.Slt H1 a C dx vs ∧ sp [.ref a] H1 Q E) : SlX.tPropSl C sp E ta σ H Q := q
theorem rd_propAt {C : Addr} {sp : Sp} {E : XK} {H : Hp} {Q : VK} {v x y : V} (h : Ob2 C H v x y) (q : sp [v] H Q E) : ∃ a dx vs, v = .ref a ∧ SlX.Slt H a C dx vs ∧ sp [.ref a] H Q E := by
  obtain ⟨a, dx, rfl, s⟩ := h
  exact ⟨a, dx, _, rfl, s, q⟩

/-! ### math.lcm -/
def rLcm : List V → Hp → VK → Prop := fun vs H Q => ∃ a b : Int, vs = [.int a, .int b] ∧ (a.natAbs < 2 ^ 9000 ∧ b.natAbs < 2 ^ 9000) ∧ Q (.int ((Nat.lcm a.natAbs b.natAbs : Nat) : Int)) H
theorem lcm_le' (m n : Nat) : m.lcm n ≤ m * n := by
  unfold Nat.lcm
  exact Nat.div_le_self _ _
theorem cr_lcm {X : Cx} : CallR X (.builtin "math.lcm") rLcm := by
  intro pins s σ H vs us Q I r h
  obtain ⟨a, b, rfl, ⟨ha, hb⟩, q⟩ := h
  obtain ⟨t, u, rfl⟩ := Vals.int2 r
  have h1 : (max 1 a.natAbs).log2 ≤ 8999 := PySem.W.mg_log (by show max 1 a.natAbs < 2 ^ 9000; have : 1 < 2 ^ 9000 := Nat.one_lt_two_pow (by decide); omega)
  have h2 : (max a.natAbs b.natAbs).log2 ≤ 8999 := PySem.W.mg_log (by show max a.natAbs b.natAbs < 2 ^ 9000; omega)
  have e : (Nat.lcm 1 a.natAbs).lcm b.natAbs = a.natAbs.lcm b.natAbs := by simp [Nat.lcm]
  have hsz : ((((Nat.lcm 1 a.natAbs).lcm b.natAbs : Nat) : Int)).natAbs.log2 < bitsLine := by
    rw [e, Int.natAbs_natCast]
    have h3 : a.natAbs.lcm b.natAbs < 2 ^ 18000 := Nat.lt_of_le_of_lt (lcm_le' _ _) (by
      rw [show (18000 : Nat) = 9000 + 9000 from rfl, Nat.pow_add]
      exact Nat.mul_lt_mul'' ha hb)
    have h4 : (a.natAbs.lcm b.natAbs).log2 ≤ 17999 := PySem.W.mg_log h3
    exact Nat.lt_of_le_of_lt h4 (by decide)
  refine call_function_meets PySem.W.MGF.kind_lcm PySem.W.MGF.plain_lcm PySem.W.MGF.entry_lcm (PySem.W.MGF.args_lcm _ _) (PySem.W.mg_run_lcm a t b u (by omega) (by omega) hsz).meets ?_
  rw [e]
  exact ⟨.int _, H, I.tok _, ⟨_, rfl⟩, q⟩
theorem rd_lcm {H : Hp} {Q : VK} {i j : Int} (q : Q (.int ((Nat.lcm i.natAbs j.natAbs : Nat) : Int)) H) (h : i.natAbs < 2 ^ 9000 ∧ j.natAbs < 2 ^ 9000) : rLcm [.int i, .int j] H Q := ⟨i, j, rfl, h, q⟩

/-! ### defs with defaults, defs with a star -/
section
variable {P : Program} {w : World} {K : PySem.W.Frag} {mg : Str → Option Value} {base : Heap} {k : Nat} {x name qual : Str} {params : Arguments} {body : List Stmt} {scope : Scope} {f : Addr} {N ps : List Str} {sp : Sp} {dvs : List V}
/-- a def with one default, called with it or without -/
theorem fnR_ofD (F : ∃ fd, FunD K name qual params body scope dvs [] f fd) (S : FnScope N ps scope) (hd : dvs.length = 1)
    (n : Nat) (hn : n + 1 = ps.length)
    (hb1 : ∀ (T : Addr) (kV doc pm : Value) (an : Option Addr) (cdv ct : Value) (us its : List Value), us.length = n → its.length = 1 → ∃ k, bindArgs (PySem.W.fnOf name qual params body scope (.ref T) kV doc pm an cdv ct) ⟨us, []⟩ = seqItems? (.ref T) >>= k ∧ k (some its.toArray) = pure (ps.zip (us ++ its)))
    (hb0 : ∀ (T : Addr) (kV doc pm : Value) (an : Option Addr) (cdv ct : Value) (us its : List Value), us.length = n + 1 → its.length = 1 → ∃ k, bindArgs (PySem.W.fnOf name qual params body scope (.ref T) kV doc pm an cdv ct) ⟨us, []⟩ = seqItems? (.ref T) >>= k ∧ k (some its.toArray) = pure (ps.zip us))
    (len : ∀ vs H Q E, sp vs H Q E → vs.length = ps.length)
    (hbody : ∀ (cdv : Value) (A : Around) (outer : List Env) (s : Shared) (H : Hp) (vs : List V) (Q : VK) (E : XK), Room k (A.deeper (envOfC qual scope s.heap.objs.size f cdv)) → sp vs H Q E →
      ∃ t, PSs (cxOf (CXW P w) P w K mg base N qual scope f cdv A outer s H E) body t ∧ t { nx := fun _ H' => Q .non H', rt := Q } (start N vs) H) : FnR P w K mg base (CXW P w) (k + 1) f (fun vs H Q E => sp vs H Q E ∨ sp (vs ++ dvs) H Q E) := by
  obtain ⟨fd, F⟩ := F
  have G := FunD.ok (P := P) (w := w) (mg := mg) (base := base) (CX := CXW P w) F S len hbody
  have hne : dvs ≠ [] := fun e => by rw [e] at hd; cases hd
  obtain ⟨ds1, v1, b1⟩ := F.binds1 n 0 hne (by rw [hd]; exact hn) (fun T kV doc pm an cdv ct us its hu hi => by
    obtain ⟨k, e1, e2⟩ := hb1 T kV doc pm an cdv ct us its hu (by rw [hi, hd])
    exact ⟨k, e1, by rw [List.drop_zero]; exact e2⟩)
  obtain ⟨ds0, v0, b0⟩ := F.binds1 (n + 1) 1 hne (by rw [hd]; exact hn) (fun T kV doc pm an cdv ct us its hu hi => by
    obtain ⟨k, e1, e2⟩ := hb0 T kV doc pm an cdv ct us its hu (by rw [hi, hd])
    exact ⟨k, e1, by rw [List.drop_of_length_le (by omega), List.append_nil]; exact e2⟩)
  intro A outer s H us vs Q E hr e0 r hs
  rcases hs with hs | hs
  · refine G.raw b0 v0 A outer s H us vs Q E hr e0 r ?_
    show sp (vs ++ List.drop 1 dvs) H Q E
    rw [List.drop_of_length_le (by omega), List.append_nil]
    exact hs
  · refine G.raw b1 v1 A outer s H us vs Q E hr e0 r ?_
    show sp (vs ++ List.drop 0 dvs) H Q E
    rw [List.drop_zero]
    exact hs
/-- def f(*v) -/
theorem cal_star {pv : Str} (g : mg x = some (.ref f)) (F : ∃ fd, FunD K name qual params body scope [] [] f fd) (S : FnScope N ([] ++ [pv]) scope)
    (hb : ∀ (kV doc pm : Value) (an : Option Addr) (cdv ct : Value) (rest : List Value), bindArgs (PySem.W.fnOf name qual params body scope .none kV doc pm an cdv ct) ⟨rest, []⟩ = (newTuple rest >>= fun t => pure [(pv, t)]))
    (hbody : ∀ (cdv : Value) (A : Around) (outer : List Env) (s : Shared) (H : Hp) (vs : List V) (Q : VK) (E : XK), Room k (A.deeper (envOfC qual scope s.heap.objs.size f cdv)) → sp vs H Q E →
      ∃ t, PSs (cxOf (CXW P w) P w K mg base N qual scope f cdv A outer s H E) body t ∧ t { nx := fun _ H' => Q .non H', rt := Q } (start N vs) H) :
    Cal P w K mg base (k + 1) x (fun vs H Q E => vs.length ≤ sizeLine ∧ ∀ p, H p = none → sp [V.ref p] (upd H p (.tup vs)) Q E) := by
  obtain ⟨fd, F⟩ := F
  have kp := F.kp
  obtain ⟨oc, od, dV, kV, doc, pm, an, cdv, ct, osl, rfl, lk, hcd, hD, _⟩ := F.ex
  rcases hD with ⟨_, rfl⟩ | ⟨e, _⟩
  · refine ⟨f, g, kp, (StX.fn_star (ps := []) (pv := pv) (CX := CXW P w) lk hcd S StX.cxUp (fun us rest hu => ?_) (fun A outer s H vs Q E hr hs => hbody cdv A outer s H vs Q E hr hs)).imp fun vs H Q E h => ⟨[], vs, rfl, rfl, h.1, h.2⟩⟩
    obtain rfl := List.eq_nil_of_length_eq_zero hu
    exact hb kV doc pm an cdv ct rest
  · exact absurd rfl e
end
end Wo
end
section
set_option Elab.async false
set_option linter.all false
set_option maxRecDepth 100000
set_option maxHeartbeats 4000000
/-! Wo, part L: comprehensions and loops in use. -/
namespace Wo
open PySem PySem.Spec PyProof.Rows L2
/-- what a comprehension [e for g in J] asks -/
def LcK (J : It) (H1 : Hp) (g : TG) (te : TE) (vs : List Nat) (σ : L2.St) (Q : VK) : Prop :=
  ∀ D, H1 D = none → ∃ W : Nat → Nat → Hp → Prop, (∃ m, W 0 m (upd H1 D (.lst []))) ∧ ∀ i m H, W i m H →
      (J.stop i H ∧ Q (.ref D) H) ∨ (J.go i H ∧ ∃ Nx : Hp → Prop, (∀ H', Nx H' → ∃ m', m' < m ∧ W (i + 1) m' H') ∧ ∀ x H', J.yld i H x H' → g x (wipe σ vs) H' fun σ2 H2 => wipe σ2 vs = wipe σ vs ∧ tYes σ2 H2 fun b H3 =>
        if b = true then (tHid te) σ2 H3 fun y H4 => ∃ acc, H4 D = some (.lst acc) ∧ acc.length < sizeLine ∧ Nx (upd H4 D (.lst (acc ++ [y]))) else Nx H3)
section
variable {K : PySem.W.Frag} {α β γ : Type} {R : Rl α} {S : Rl β} [Up R] [Up S] {J : It} {H1 : Hp} {as : List α} {g : TG} {te : TE} {vs : List Nat} {σ : L2.St} {Q : VK} {x : V}
theorem lcK_map (W : Wk J H1 R as) (hz : as.length ≤ sizeLine) (f : α → β)
    (hb : ∀ a G x, a ∈ as → Same H1 G → R G x a → ∃ σ2, GOk g x (wipe σ vs) G σ2 ∧ wipe σ2 vs = wipe σ vs ∧ ∀ Kt : VK, (∀ y G', Same G G' → S G' y (f a) → Kt y G') → te σ2 G Kt)
    (hd : ∀ v H', Same H1 H' → RL K S H' v (as.map f) → Q v H') : LcK J H1 g te vs σ Q := by
  intro D hD
  refine lc_map (K := K) (S := S) W hz (fun _ a => f a) (Qd := fun D H => Q (.ref D) H) (fun i a G x ha s rx => hb a G x (List.mem_of_getElem? ha) s rx) (fun D H' s r => hd _ _ s ?_) D hD
  rw [List.mapIdx_eq_zipIdx_map] at r
  have e : List.map (fun x : α × Nat => f x.1) as.zipIdx = as.map f := by
    rw [show (fun x : α × Nat => f x.1) = f ∘ Prod.fst from rfl, ← List.map_map, List.zipIdx_map_fst]
  rw [e] at r
  exact r
/-- over a name -/
theorem lcK_name {i : Nat} (W : Wk J H1 R as) (hz : as.length ≤ sizeLine) (f : α → β)
    (hd : ∀ v H', Same H1 H' → RL K S H' v (as.map f) → Q v H')
    (hb : ∀ a G x, a ∈ as → Same H1 G → R G x a → ∀ Kt : VK, (∀ y G', Same G G' → S G' y (f a) → Kt y G') → te ((wipe σ vs).set i (some x)) G Kt)
    (hw : ∀ v, wipe ((wipe σ vs).set i (some v)) vs = wipe σ vs := by intro _; rfl) : LcK J H1 (gName i) te vs σ Q :=
  lcK_map W hz f (fun a G x ha s r => ⟨_, gok_name, hw x, hb a G x ha s r⟩) hd
/-- over a pair of names -/
theorem lcK_pair {δ : Type} {T : Rl γ} {U : Rl δ} [Up T] [Up U] {i j : Nat} {as : List (γ × δ)} (W : Wk J H1 (RP K T U) as) (hz : as.length ≤ sizeLine) (f : γ × δ → β)
    (hd : ∀ v H', Same H1 H' → RL K S H' v (as.map f) → Q v H')
    (hb : ∀ a G x y, a ∈ as → Same H1 G → T G x a.1 → U G y a.2 → ∀ Kt : VK, (∀ y G', Same G G' → S G' y (f a) → Kt y G') → te (((wipe σ vs).set i (some x)).set j (some y)) G Kt)
    (hw : ∀ v u, wipe (((wipe σ vs).set i (some v)).set j (some u)) vs = wipe σ vs := by intro _ _; rfl) : LcK J H1 (gTup K 2 (gCons (gName i) (gCons (gName j) gNil))) te vs σ Q :=
  lcK_map W hz f (fun a G x ha s r => by
    obtain ⟨p, y, z, rfl, hs, r1, r2⟩ := r
    exact ⟨_, gok_pair hs gok_name gok_name, hw y z, hb a G y z ha s r1 r2⟩) hd
end
section
variable {K : PySem.W.Frag} {α β : Type} {R : Rl α} {S : Rl β} [Up R] [Up S] {σ : L2.St} {H : Hp} {Q : VK} {g : TG} {te tl : TE} {ta : TA} {vs : List Nat} {as : List α} {bs : List β} {x y : V}
/-! how the comprehension begins -/
theorem rd_lcL (q : tl σ H fun x H1 => ∃ a, x = .ref a ∧ (∃ xs, SqL K H1 a xs) ∧ LcK (Itl K a) H1 g te vs σ Q) : tLc (iList K tl) g tYes (tHid te) vs σ H Q := q
theorem rd_lcT (q : tl σ H fun x H1 => ∃ a, x = .ref a ∧ (∃ xs, SqT K H1 a xs) ∧ LcK (Itt K a) H1 g te vs σ Q) : tLc (iTup K tl) g tYes (tHid te) vs σ H Q := q
theorem rd_lcR1 (q : ta σ H fun us H1 => ∃ j : Int, us = [.int j] ∧ -(2 ^ 62) ≤ j ∧ j < 2 ^ 62 ∧ LcK (Itr 0 j.toNat) H1 g te vs σ Q) : tLc (iRng1 ta) g tYes (tHid te) vs σ H Q := q
theorem rd_lcR2 (q : ta σ H fun us H1 => ∃ i j : Int, us = [.int i, .int j] ∧ (-(2 ^ 62) ≤ i ∧ i < 2 ^ 62 ∧ -(2 ^ 62) ≤ j ∧ j < 2 ^ 62) ∧ LcK (Itr i (j - i).toNat) H1 g te vs σ Q) : tLc (iRng2 ta) g tYes (tHid te) vs σ H Q := q
theorem rd_lcZ (q : ta σ H fun us H1 => ∃ a b xs ys, us = [.ref a, .ref b] ∧ SqL K H1 a xs ∧ SqL K H1 b ys ∧ LcK (Itz K a b) H1 g te vs σ Q) : tLc (iZip K ta) g tYes (tHid te) vs σ H Q := q
/-! what is walked is known: then the comprehension is asked -/
theorem lcL (h : RL K R H x as) (q : ∀ J, Wk J H R as → as.length ≤ sizeLine → LcK J H g te vs σ Q) : ∃ a, x = .ref a ∧ (∃ xs, SqL K H a xs) ∧ LcK (Itl K a) H g te vs σ Q := by
  obtain ⟨p, ws, rfl, s, r, z⟩ := id h
  exact ⟨p, rfl, ⟨ws, s⟩, q _ (wk_list h) (by rw [← r.len]; exact z)⟩
theorem lcT (h : RT K R H x as) (q : ∀ J, Wk J H R as → as.length ≤ sizeLine → LcK J H g te vs σ Q) : ∃ a, x = .ref a ∧ (∃ xs, SqT K H a xs) ∧ LcK (Itt K a) H g te vs σ Q := by
  obtain ⟨p, ws, rfl, s, r, z⟩ := id h
  exact ⟨p, rfl, ⟨ws, s⟩, q _ (wk_tup h) (by rw [← r.len]; exact z)⟩
theorem lcR1 {j : Int} (h2 : j < 10 ^ 6) (q : ∀ J, Wk J H RI (rgI 0 j.toNat) → (rgI 0 j.toNat).length ≤ sizeLine → LcK J H g te vs σ Q) (h1 : 0 ≤ j) (hz : 10 ^ 6 ≤ sizeLine := by decide) : ∃ i : Int, [V.int j] = [.int i] ∧ -(2 ^ 62) ≤ i ∧ i < 2 ^ 62 ∧ LcK (Itr 0 i.toNat) H g te vs σ Q :=
  ⟨j, rfl, by omega, by omega, q _ wk_range (by rw [rgI_len]; omega)⟩
theorem lcZ (h : RL K R H x as) (h' : RL K S H y bs) (q : ∀ J, Wk J H (RP K R S) (as.zip bs) → (as.zip bs).length ≤ sizeLine → LcK J H g te vs σ Q) : ∃ a b xs ys, [x, y] = [.ref a, .ref b] ∧ SqL K H a xs ∧ SqL K H b ys ∧ LcK (Itz K a b) H g te vs σ Q := by
  obtain ⟨p, ws, rfl, s, r, z⟩ := id h
  obtain ⟨p', ws', rfl, s', r', z'⟩ := id h'
  refine ⟨p, p', ws, ws', rfl, s, s', q _ (wk_zip h h') ?_⟩
  have := r.len
  rw [List.length_zip]
  omega
end

/-! ### for loops -/
/-- what a loop over J asks -/
def ForK (J : It) (H1 : Hp) (g : TG) (tb : TS) (D : Ends) (σ : L2.St) : Prop :=
  ∃ W : Nat → Nat → L2.St → Hp → Prop, (∃ m, W 0 m σ H1) ∧ ∀ i m σ H, W i m σ H →
  (J.stop i H ∧ D.nx σ H) ∨ (J.go i H ∧ ∃ N : L2.St → Hp → Prop, (∀ σ' H', N σ' H' → ∃ m', m' < m ∧ W (i + 1) m' σ' H') ∧ ∀ x H', J.yld i H x H' → g x σ H' fun σ2 H2 => tb { D with nx := N, ct := N, bk := D.nx } σ2 H2)
section
variable {K : PySem.W.Frag} {α β : Type} {R : Rl α} {S : Rl β} [Up R] [Up S] {σ : L2.St} {H : Hp} {D : Ends} {g : TG} {tl : TE} {tb : TS} {ta : TA} {as : List α} {bs : List β} {x y : V} {J : It}
theorem forK (W : Wk J H R as) (I : Nat → L2.St → Hp → Prop) (h0 : I 0 σ H) (hs : ∀ i σ' H', I i σ' H' → Same H H')
    (hb : ∀ i σ' H' a x H'', as[i]? = some a → I i σ' H' → Same H' H'' → Same H H'' → R H'' x a → g x σ' H'' fun σ2 H2 => tb { D with nx := I (i + 1), ct := I (i + 1), bk := D.nx } σ2 H2)
    (hd : ∀ σ' H', I as.length σ' H' → D.nx σ' H') : ForK J H g tb D σ := by
  refine ⟨fun i m σ' H' => m = as.length - i ∧ i ≤ as.length ∧ I i σ' H', ⟨as.length, by simp, Nat.zero_le _, h0⟩, ?_⟩
  rintro i m σ' H' ⟨rfl, hi, hI⟩
  have s := hs i σ' H' hI
  by_cases hlt : i < as.length
  · refine .inr ⟨W.go i H' s hlt, I (i + 1), fun σ2 H2 q => ⟨as.length - (i + 1), by omega, rfl, hlt, q⟩, fun x H'' hy => ?_⟩
    obtain ⟨s2, rx⟩ := W.yld i H' x H'' as[i] s (by simp [hlt]) hy
    exact hb i σ' H' as[i] x H'' (by simp [hlt]) hI s2 (s.trans s2) rx
  · have e : i = as.length := by omega
    subst e
    exact .inl ⟨W.stop H' s, hd σ' H' hI⟩
theorem rd_forL (q : tl σ H fun x H1 => ∃ a, x = .ref a ∧ (∃ xs, SqL K H1 a xs) ∧ ForK (Itl K a) H1 g tb D σ) : tFor (iList K tl) g tb D σ H := q
theorem rd_forT (q : tl σ H fun x H1 => ∃ a, x = .ref a ∧ (∃ xs, SqT K H1 a xs) ∧ ForK (Itt K a) H1 g tb D σ) : tFor (iTup K tl) g tb D σ H := q
theorem rd_forR1 (q : ta σ H fun us H1 => ∃ j : Int, us = [.int j] ∧ -(2 ^ 62) ≤ j ∧ j < 2 ^ 62 ∧ ForK (Itr 0 j.toNat) H1 g tb D σ) : tFor (iRng1 ta) g tb D σ H := q
theorem rd_forZ (q : ta σ H fun us H1 => ∃ a b xs ys, us = [.ref a, .ref b] ∧ SqL K H1 a xs ∧ SqL K H1 b ys ∧ ForK (Itz K a b) H1 g tb D σ) : tFor (iZip K ta) g tb D σ H := q
theorem forL (h : RL K R H x as) (q : ∀ J, Wk J H R as → as.length ≤ sizeLine → ForK J H g tb D σ) : ∃ a, x = .ref a ∧ (∃ xs, SqL K H a xs) ∧ ForK (Itl K a) H g tb D σ := by
  obtain ⟨p, ws, rfl, s, r, z⟩ := id h
  exact ⟨p, rfl, ⟨ws, s⟩, q _ (wk_list h) (by rw [← r.len]; exact z)⟩
theorem forT (h : RT K R H x as) (q : ∀ J, Wk J H R as → as.length ≤ sizeLine → ForK J H g tb D σ) : ∃ a, x = .ref a ∧ (∃ xs, SqT K H a xs) ∧ ForK (Itt K a) H g tb D σ := by
  obtain ⟨p, ws, rfl, s, r, z⟩ := id h
  exact ⟨p, rfl, ⟨ws, s⟩, q _ (wk_tup h) (by rw [← r.len]; exact z)⟩
theorem forR1 {j : Int} (h1 : 0 ≤ j) (h2 : j < 2 ^ 62) (q : ∀ J, Wk J H RI (rgI 0 j.toNat) → ForK J H g tb D σ) : ∃ i : Int, [V.int j] = [.int i] ∧ -(2 ^ 62) ≤ i ∧ i < 2 ^ 62 ∧ ForK (Itr 0 i.toNat) H g tb D σ :=
  ⟨j, rfl, by omega, h2, q _ wk_range⟩
theorem forZ (h : RL K R H x as) (h' : RL K S H y bs) (q : ∀ J, Wk J H (RP K R S) (as.zip bs) → (as.zip bs).length ≤ sizeLine → ForK J H g tb D σ) : ∃ a b xs ys, [x, y] = [.ref a, .ref b] ∧ SqL K H a xs ∧ SqL K H b ys ∧ ForK (Itz K a b) H g tb D σ := by
  obtain ⟨p, ws, rfl, s, r, z⟩ := id h
  obtain ⟨p', ws', rfl, s', r', z'⟩ := id h'
  refine ⟨p, p', ws, ws', rfl, s, s', q _ (wk_zip h h') ?_⟩
  have := r.len
  rw [List.length_zip]
  omega
/-- storing a pair into two names -/
theorem rd_gpair {i j : Nat} {P : L2.St → Hp → Prop} {a : α} {b : β} (h : RP K R S H x (a, b)) (k : ∀ y z, R H y a → S H z b → P ((σ.set i (some y)).set j (some z)) H) : gTup K 2 (gCons (gName i) (gCons (gName j) gNil)) x σ H P := by
  obtain ⟨p, y, z, rfl, s, r1, r2⟩ := h
  exact ⟨p, [y, z], rfl, s, rfl, y, [z], rfl, z, [], rfl, rfl, k y z r1 r2⟩
/-- a name, and a pair of names -/
theorem rd_gpair3 {γ : Type} {T : Rl γ} {i j l : Nat} {P : L2.St → Hp → Prop} {a : α} {b : β} {c : γ} (h : RP K R (RP K S T) H x (a, (b, c))) (k : ∀ y z u, R H y a → S H z b → T H u c → P (((σ.set i (some y)).set j (some z)).set l (some u)) H) :
    gTup K 2 (gCons (gName i) (gCons (gTup K 2 (gCons (gName j) (gCons (gName l) gNil))) gNil)) x σ H P := by
  obtain ⟨p, y, z, rfl, s, r1, r2⟩ := h
  obtain ⟨p2, z1, z2, rfl, s2, r3, r4⟩ := r2
  exact ⟨p, [y, .ref p2], rfl, s, rfl, y, [.ref p2], rfl, .ref p2, [], rfl, ⟨p2, [z1, z2], rfl, s2, rfl, z1, [z2], rfl, z2, [], rfl, rfl, rfl, k y z1 z2 r1 r3 r4⟩⟩
end

/-! ### [e for row in rows for one in row] -/
def Lc2K (K : PySem.W.Frag) (J : It) (i j : Nat) (te : TE) (vs vs1 : List Nat) (σ : L2.St) (H1 : Hp) (Q : VK) : Prop := ∀ D, H1 D = none → ∃ W : Nat → Nat → Hp → Prop, (∃ m, W 0 m (upd H1 D (.lst []))) ∧ ∀ n m H, W n m H →
  (J.stop n H ∧ Q (.ref D) H) ∨ (J.go n H ∧ ∃ Nx : Hp → Prop, (∀ H', Nx H' → ∃ m', m' < m ∧ W (n + 1) m' H') ∧ ∀ x H', J.yld n H x H' → gName i x (wipe σ vs) H' fun σ2 H2 => wipe σ2 vs = wipe σ vs ∧ tYes σ2 H2 fun b H3 =>
    if b = true then iTup K (tVar i) σ2 H3 fun J1 H4 => ∃ W1 : Nat → Nat → Hp → Prop, (∃ m, W1 0 m H4) ∧ ∀ n k H, W1 n k H →
      (J1.stop n H ∧ Nx H) ∨ (J1.go n H ∧ ∃ Nx1 : Hp → Prop, (∀ H', Nx1 H' → ∃ k', k' < k ∧ W1 (n + 1) k' H') ∧ ∀ x H', J1.yld n H x H' → gName j x (wipe σ2 vs1) H' fun σ3 H5 => wipe σ3 vs1 = wipe σ2 vs1 ∧ tYes σ3 H5 fun b H6 =>
        if b = true then (tHid te) σ3 H6 fun y H7 => ∃ acc, H7 D = some (.lst acc) ∧ acc.length < sizeLine ∧ Nx1 (upd H7 D (.lst (acc ++ [y]))) else Nx1 H6)
    else Nx H3)
section
variable {K : PySem.W.Frag} {α β : Type} {R : Rl α} {S : Rl β} [Up R] [Up S] {σ : L2.St} {H : Hp} {Q : VK} {te tl : TE} {vs vs1 : List Nat} {as : List (List α)} {x : V}
theorem rd_lc2TT {i j : Nat} (q : tl σ H fun x H1 => ∃ a, x = .ref a ∧ (∃ xs, SqT K H1 a xs) ∧ Lc2K K (Itt K a) i j te vs vs1 σ H1 Q) :
    tLc2 (iTup K tl) (gName i) tYes (iTup K (tVar i)) (gName j) tYes (tHid te) vs vs1 σ H Q := q
theorem lc2TT {i j : Nat} (f : α → β) (h : RT K (RT K R) H x as) (hz : as.flatten.length ≤ sizeLine)
    (hd : ∀ v H', Same H H' → RL K S H' v (as.flatten.map f) → Q v H')
    (hb : ∀ r u v G, r ∈ as → ∀ a ∈ r, Same H G → RT K R G v r → R G u a → ∀ Kt : VK, (∀ y G', Same G G' → S G' y (f a) → Kt y G') → te ((wipe ((wipe σ vs).set i (some v)) vs1).set j (some u)) G Kt)
    (hi : ∀ v, ((wipe σ vs).set i (some v))[i]? = some (some v) := by intro _; rfl)
    (hw : ∀ v, wipe ((wipe σ vs).set i (some v)) vs = wipe σ vs := by intro _; rfl)
    (hw1 : ∀ v u, wipe ((wipe ((wipe σ vs).set i (some v)) vs1).set j (some u)) vs1 = wipe ((wipe σ vs).set i (some v)) vs1 := by intro _ _; rfl) :
    ∃ a, x = .ref a ∧ (∃ xs, SqT K H a xs) ∧ Lc2K K (Itt K a) i j te vs vs1 σ H Q := by
  obtain ⟨p, ws, rfl, sq, r, z⟩ := id h
  have W := wk_tup h
  refine ⟨p, rfl, ⟨ws, sq⟩, fun D hD => ?_⟩
  have fl : ∀ n (a : List α), as[n]? = some a → (as.take (n + 1)).flatten = (as.take n).flatten ++ a := fun n a e => by
    rw [List.take_succ, e]
    simp
  have lt : ∀ n, (as.take n).flatten.length ≤ sizeLine := fun n => by
    have e := congrArg (fun l => l.flatten.length) (List.take_append_drop n as)
    simp only [List.flatten_append, List.length_append] at e
    omega
  refine ⟨fun n m H' => m = as.length - n ∧ n ≤ as.length ∧ ∃ G acc, H' = upd G D (.lst acc) ∧ G D = none ∧ Same H G ∧ RAll S G acc ((as.take n).flatten.map f), ⟨as.length, by simp, Nat.zero_le _, H, [], rfl, hD, Same.refl _, by rw [List.take_zero]; exact .nil⟩, ?_⟩
  rintro n m H' ⟨rfl, hn, G, acc, rfl, hG, s, ra⟩
  by_cases hlt : n < as.length
  · refine .inr ⟨W.go n _ (s.trans (Same.new hG)) hlt, fun H' => ∃ G' acc', H' = upd G' D (.lst acc') ∧ G' D = none ∧ Same H G' ∧ RAll S G' acc' ((as.take (n + 1)).flatten.map f), ?_, ?_⟩
    · rintro H' ⟨G', acc', e, h1, h2, h3⟩
      exact ⟨as.length - (n + 1), by omega, rfl, hlt, G', acc', e, h1, h2, h3⟩
    · intro v H' hy
      obtain ⟨G', s2, hG', eH, rx⟩ := W.yldD n G D _ v H' as[n] s hG (by simp [hlt]) hy
      subst eH
      obtain ⟨p2, ws2, rfl, sq2, r2, z2⟩ := id rx
      have W2 := wk_tup rx
      refine ⟨hw _, tYes_of ?_⟩
      refine ⟨_, hi _, p2, rfl, ⟨ws2, Same.seqT (Same.new hG') sq2⟩, ?_⟩
      refine ⟨fun j k H' => k = as[n].length - j ∧ j ≤ as[n].length ∧ ∃ G2 acc, H' = upd G2 D (.lst acc) ∧ G2 D = none ∧ Same G' G2 ∧ RAll S G2 acc (((as.take n).flatten ++ as[n].take j).map f), ⟨as[n].length, by simp, Nat.zero_le _, G', acc, rfl, hG', Same.refl _, by rw [List.take_zero, List.append_nil]; exact ra.up s2⟩, ?_⟩
      rintro j k H'' ⟨rfl, hj, G2, acc2, rfl, hG2, s3, ra2⟩
      by_cases hjl : j < as[n].length
      · refine .inr ⟨W2.go j _ (s3.trans (Same.new hG2)) hjl, fun H' => ∃ G3 acc', H' = upd G3 D (.lst acc') ∧ G3 D = none ∧ Same G' G3 ∧ RAll S G3 acc' (((as.take n).flatten ++ as[n].take (j + 1)).map f), ?_, ?_⟩
        · rintro H' ⟨G3, acc', e, h1, h2, h3⟩
          exact ⟨as[n].length - (j + 1), by omega, rfl, hjl, G3, acc', e, h1, h2, h3⟩
        · intro u H3 hy2
          obtain ⟨G3, s4, hG3, eH3, ru⟩ := W2.yldD j G2 D _ u H3 as[n][j] s3 hG2 (by simp [hjl]) hy2
          subst eH3
          refine ⟨hw1 _ _, tYes_of ⟨D, acc2, upd_same, ?_⟩⟩
          rw [hid_upd hG3]
          have la : acc2.length < sizeLine := by
            rw [ra2.len, List.length_map, List.length_append, List.length_take]
            have h1 := lt (n + 1)
            rw [fl n as[n] (by simp [hlt]), List.length_append] at h1
            omega
          refine hb as[n] u (.ref p2) G3 (List.getElem_mem hlt) as[n][j] (List.getElem_mem hjl) (s.trans (s2.trans (s3.trans s4))) (Up.up (s3.trans s4) rx) ru _ fun y G4 s5 hy3 hG4 => ?_
          refine ⟨acc2, upd_same, la, G4, acc2 ++ [y], by rw [upd_upd], hG4, (s3.trans s4).trans s5, ?_⟩
          have e : ((as.take n).flatten ++ as[n].take (j + 1)).map f = ((as.take n).flatten ++ as[n].take j).map f ++ [f as[n][j]] := by
            rw [List.take_succ_eq_append_getElem hjl, ← List.append_assoc, List.map_append (l₁ := (as.take n).flatten ++ as[n].take j), List.map_singleton]
          rw [e]
          exact (ra2.up (s4.trans s5)).snoc hy3
      · have e : j = as[n].length := by omega
        subst e
        refine .inl ⟨W2.stop _ (s3.trans (Same.new hG2)), G2, acc2, rfl, hG2, (s.trans s2).trans s3, ?_⟩
        rw [fl n as[n] (by simp [hlt])]
        rw [List.take_of_length_le (Nat.le_refl _)] at ra2
        exact ra2
  · have e : n = as.length := by omega
    subst e
    rw [List.take_of_length_le (Nat.le_refl _)] at ra
    refine .inl ⟨W.stop _ (s.trans (Same.new hG)), hd _ _ (s.trans (Same.new hG)) (RL.mk hG ra ?_)⟩
    rw [ra.len, List.length_map]
    exact hz
end
end Wo
namespace Wo
open PySem PySem.Spec PyProof.Rows L2
section
variable {X : Cx} {x : Str} {pos : Pos} {a : Addr}
/-- a global that holds an object -/
theorem pe_gC (h : X.mg x = some (.ref a)) (hg : Gl X x := by rfl) (hd : (x == ("__debug__" : Str)) = false := by decide) : PE X (.Name x pos) (tC (.ref a)) := pe_glob hg h (show RelV (.ref a) (.ref a) from rfl) hd
end
section
variable {K : PySem.W.Frag} {H : Hp} {Q : VK} {v c : V} {t u : Value}
theorem rd_isiY (ty : HasTy K H v t) (q : Q (.bl true) H) (k : ClsV c u) (e : PySem.W.kitOne K t u = some true := by rfl) : rIsiA K [v, c] H Q := rd_isi ty k e q
theorem rd_isiN (ty : HasTy K H v t) (q : Q (.bl false) H) (k : ClsV c u) (e : PySem.W.kitOne K t u = some false := by rfl) : rIsiA K [v, c] H Q := rd_isi ty k e q
theorem ite_n {A B : Prop} (h : B) : if (!true) = true then A else B := h
theorem ite_y {A B : Prop} (h : A) : if (!false) = true then A else B := h
end
end Wo
namespace Wo
open PySem PySem.Spec PyProof.Rows L2
section
variable {K : PySem.W.Frag} {C fi : Addr} {f0 f1 : Str} {H : Hp} {Q : VK} {v : V} {q : Rat}
theorem rd_top (T : Sl2 K C f0 f1 fi) (h : RQ C H v q) {Q : V → Prop} (k : Q (.int q.num)) : ∃ a C dx p vs i z, v = .ref a ∧ SlX.Slt H a C dx vs ∧ SlX.SCls K C ∧ SlX.Slot1 K C f1 p i ∧ vs[i]? = some (some z) ∧ Q z := by
  obtain ⟨a, dx, e, s⟩ := h
  obtain ⟨p, sp⟩ := T.s1
  exact ⟨a, C, dx, p, _, 1, _, e, s, T.cl, sp, rfl, k⟩
theorem rd_bot (T : Sl2 K C f0 f1 fi) (h : RQ C H v q) {Q : V → Prop} (k : Q (.int (q.den : Int))) : ∃ a C dx p vs i z, v = .ref a ∧ SlX.Slt H a C dx vs ∧ SlX.SCls K C ∧ SlX.Slot1 K C f0 p i ∧ vs[i]? = some (some z) ∧ Q z := by
  obtain ⟨a, dx, e, s⟩ := h
  obtain ⟨p, sp⟩ := T.s0
  exact ⟨a, C, dx, p, _, 0, _, e, s, T.cl, sp, rfl, k⟩
theorem HasTy.rq (T : Sl2 K C f0 f1 fi) (h : RQ C H v q) : HasTy K H v (.ref C) := HasTy.ob T h
/-- an elder instance stays while another's slots are stored -/
theorem rq_slH {y dx e d : Addr} {D : Addr} {fs : List (Str × V)} {vs : List (Option V)} (h : RQ C H v q) (hy : H y = some (.ins D d fs)) (hx : H dx = some (.own e)) : RQ C (SlX.slH H y D dx vs) v q := by
  obtain ⟨a, d', rfl, s⟩ := h
  refine ⟨a, d', rfl, ?_⟩
  rcases s with ⟨h1, h2⟩ | ⟨h1, h2⟩
  · cases h2
  · have n0 : a ≠ y := fun z => by
      rw [z, hy] at h1
      have := Option.some.inj h1
      unfold SlX.SlO at this
      cases this
    have n1 : a ≠ dx := fun z => by
      rw [z, hx] at h1
      have := Option.some.inj h1
      unfold SlX.SlO at this
      cases this
    have n2 : d' ≠ y := fun z => by
      rw [z, hy] at h2; cases h2
    have n3 : d' ≠ dx := fun z => by
      rw [z, hx] at h2; cases h2
    exact .inr ⟨by rw [SlX.slH_ne n0 n1]; exact h1, by rw [SlX.slH_ne n2 n3]; exact h2⟩
end
end Wo
namespace Wo
open PySem PySem.Spec PyProof.Rows L2
theorem HasTy.sqT {K : PySem.W.Frag} {H : Hp} {p : Addr} {xs : List V} (h : SqT K H p xs) : HasTy K H (.ref p) (.type "tuple") := by
  rcases h with (h | ⟨o, h⟩) | ⟨o, its, n, hk, hc, hs, hz, r⟩
  · exact .inl (.base (.tup h))
  · exact .inl (.fTuple h)
  · exact .inl (.kTuple hk hc)
theorem HasTy.rt {K : PySem.W.Frag} {α : Type} {R : Rl α} {H : Hp} {v : V} {as : List α} (h : RT K R H v as) : HasTy K H v (.type "tuple") := by
  obtain ⟨p, vs, rfl, s, _, _⟩ := h
  exact HasTy.sqT s
section
variable {K : PySem.W.Frag} {α β : Type} {R : Rl α} {S : Rl β} [Up R] [Up S] {J : It} {H1 : Hp} {as : List α} {g : TG} {te : TE} {vs : List Nat} {σ : L2.St} {Q : VK} {x : V}
/-- [e for i in xs], of each value only P is known -/
theorem lcK_rel {i0 : Nat} (W : Wk J H1 R as) (hz : as.length ≤ sizeLine) (P : β → Prop)
    (hd : ∀ v H' bs, Same H1 H' → bs.length = as.length → (∀ b ∈ bs, P b) → RL K S H' v bs → Q v H')
    (hb : ∀ a G x, a ∈ as → Same H1 G → R G x a → ∀ Kt : VK, (∀ y G' b, Same G G' → S G' y b → P b → Kt y G') → te ((wipe σ vs).set i0 (some x)) G Kt)
    (hw : ∀ v, wipe ((wipe σ vs).set i0 (some v)) vs = wipe σ vs := by intro _; rfl) : LcK J H1 (gName i0) te vs σ Q := by
  intro D hD
  refine ⟨fun i m H => m = as.length - i ∧ i ≤ as.length ∧ ∃ G acc bs, H = upd G D (.lst acc) ∧ G D = none ∧ Same H1 G ∧ bs.length = i ∧ (∀ b ∈ bs, P b) ∧ RAll S G acc bs, ⟨as.length, by simp, Nat.zero_le _, H1, [], [], rfl, hD, Same.refl _, rfl, (fun b h => by cases h), .nil⟩, ?_⟩
  rintro i m H ⟨rfl, hi, G, acc, bs, rfl, hG, s, hbl, hP, ra⟩
  have hla : acc.length = i := by rw [ra.len, hbl]
  by_cases hlt : i < as.length
  · refine .inr ⟨W.go i _ (s.trans (Same.new hG)) hlt, fun H' => ∃ G' acc' bs', H' = upd G' D (.lst acc') ∧ G' D = none ∧ Same H1 G' ∧ bs'.length = i + 1 ∧ (∀ b ∈ bs', P b) ∧ RAll S G' acc' bs', ?_, ?_⟩
    · rintro H' ⟨G', acc', bs', e, h1, h2, h3, h4, h5⟩
      exact ⟨as.length - (i + 1), by omega, rfl, hlt, G', acc', bs', e, h1, h2, h3, h4, h5⟩
    · intro x H' hy
      obtain ⟨G', s2, hG', eH, rx⟩ := W.yldD i G D _ x H' as[i] s hG (by simp [hlt]) hy
      subst eH
      refine ⟨hw x, tYes_of ⟨D, acc, upd_same, ?_⟩⟩
      rw [hid_upd hG']
      refine hb as[i] G' x (List.getElem_mem hlt) (s.trans s2) rx _ fun y G2 b s3 hy2 hp hG2 => ?_
      refine ⟨acc, upd_same, by omega, G2, acc ++ [y], bs ++ [b], ?_, hG2, (s.trans s2).trans s3, ?_, ?_, (ra.up (s2.trans s3)).snoc hy2⟩
      · rw [upd_upd]
      · rw [List.length_append, hbl]; rfl
      · intro c hc
        rcases List.mem_append.mp hc with hc | hc
        · exact hP c hc
        · obtain rfl := List.mem_singleton.mp hc
          exact hp
  · have e : i = as.length := by omega
    subst e
    exact .inl ⟨W.stop _ (s.trans (Same.new hG)), hd _ _ bs (s.trans (Same.new hG)) hbl hP (RL.mk hG ra (by omega))⟩
theorem wd_dec (as : List (List α)) : True := trivial
end
/-- the width of rows -/
def wd {α : Type} : List (List α) → Nat
  | [] => 0
  | r :: _ => r.length
end Wo
namespace Wo
open PySem PySem.Spec PyProof.Rows L2
section
variable {K : PySem.W.Frag} {H : Hp} {Q : VK} {v : V} {α : Type} {as : List α} {f : α → Bool}
theorem rd_allT (h : RL K RB H v (as.map f)) (hf : ∀ a ∈ as, f a = true) (q : Q (.bl true) H) : rAll K [v] H Q := by
  refine rd_all h ?_
  rw [show (as.map f).all id = true from List.all_eq_true.mpr fun b hb => by obtain ⟨a, ha, rfl⟩ := List.mem_map.mp hb; exact hf a ha]
  exact q
theorem rd_anyF (h : RL K RB H v (as.map f)) (hf : ∀ a ∈ as, f a = false) (q : Q (.bl false) H) : rAny K [v] H Q := by
  refine rd_any h ?_
  rw [show (as.map f).any id = false from List.any_eq_false.mpr fun b hb => by obtain ⟨a, ha, rfl⟩ := List.mem_map.mp hb; rw [hf a ha]; exact Bool.false_ne_true]
  exact q
end
end Wo
namespace Wo
open L2
theorem RT.up' {K : PySem.W.Frag} {α : Type} {R : Rl α} [Up R] {H H' : Hp} {v : V} {as : List α} (h : RT K R H v as) (e : Same H H') : RT K R H' v as := Up.up e h
theorem RL.up' {K : PySem.W.Frag} {α : Type} {R : Rl α} [Up R] {H H' : Hp} {v : V} {as : List α} (h : RL K R H v as) (e : Same H H') : RL K R H' v as := Up.up e h
end Wo
namespace Wo
open PySem PySem.Spec PyProof.Rows L2
theorem rd_rep {H : Hp} {Q : VK} {p : Addr} {x : V} {n : Nat} (h : H p = some (.lst [x])) (hn : n ≤ 1000) (k : ∀ q H', Same H H' → H' q = some (.lst (List.replicate n x)) → Q (.ref q) H') : rRep (.ref p) (.int (n : Int)) H Q := by
  refine ⟨p, n, [x], rfl, rfl, h, by omega, by omega, ?_, fun q hq => ?_⟩
  · rw [Int.toNat_natCast, List.length_singleton, Nat.one_mul]
    exact Nat.le_trans hn (by decide)
  · rw [Int.toNat_natCast]
    have e : (List.replicate n [x]).flatten = List.replicate n x := by simp
    rw [e]
    exact k q _ (Same.new hq) upd_same
theorem RAll.repl {α : Type} {R : Rl α} {H : Hp} {x : V} {a : α} (h : R H x a) : ∀ n, RAll R H (List.replicate n x) (List.replicate n a)
  | 0 => .nil
  | n + 1 => .cons h (RAll.repl h n)
theorem RL.repl {K : PySem.W.Frag} {α : Type} {R : Rl α} {H : Hp} {p : Addr} {x : V} {a : α} {n : Nat} (e : H p = some (.lst (List.replicate n x))) (h : R H x a) (hn : n ≤ 1000) : RL K R H (.ref p) (List.replicate n a) :=
  RL.at e (RAll.repl h n) (by rw [List.length_replicate]; exact Nat.le_trans hn (by decide))
end Wo
namespace Wo
open PySem PySem.Spec PyProof.Rows L2
/-- i ** j of a wide base -/
def CPowW (i j : Int) : Prop := 0 ≤ j ∧ j ≤ 1000 ∧ i.natAbs.log2 < 10000
theorem op_powW {X : Cx} : OpR X (binaryOp .Pow) (rI CPowW fun i j => .int (i ^ j.toNat)) := opI fun i j _ _ _ _ _ hc q => by
  obtain ⟨h1, h2, h3⟩ := hc
  refine pow_int h1 ?_ q
  have b : Builtin.Int.intBits i ≤ i.natAbs.log2 + 1 := by
    unfold Builtin.Int.intBits
    split <;> omega
  have b2 : (Builtin.Int.intBits i : Int) ≤ 10000 := by omega
  have b3 : (Builtin.Int.intBits i : Int) * j ≤ 10000 * 1000 := Int.mul_le_mul b2 h2 h1 (by omega)
  exact Int.le_trans b3 (by decide)
section
variable {K : PySem.W.Frag} {H : Hp} {Q : VK} {u : Addr} {xs : List V} {n : Nat} {v : V} {i : Int}
theorem rd_ixC (h : H u = some (.lst xs)) (q : Q v H) (hi : xs[n]? = some v := by rfl) (hn : i = (n : Int) := by rfl) : rIxL K (.ref u) (.int i) H Q := by
  subst hn
  exact ⟨u, xs, _, v, rfl, rfl, .inl (.inl h), atI_nat hi, q⟩
theorem rd_sub {ta tb : TE} {σ : L2.St} {ps : V → V → V → Hp → (Hp → Prop) → Prop} {w : V} {P : L2.St → Hp → Prop} (q : ta σ H fun o H1 => tb σ H1 fun i H2 => ps o i w H2 fun H3 => P σ H3) : gSub ta tb ps w σ H P := q
end
end Wo
end
section
set_option Elab.async false
set_option linter.all false
set_option maxRecDepth 100000
set_option maxHeartbeats 4000000
/-! Wo, part X: an exception class whose __init__(self, a) says super().__init__(str(a)); self.f = a. -/
namespace Wo
open PySem PySem.W PySem.Calls PyProof.Rows PySem.HandSPX PySem.Builtin PySem.Builtin.ObjectAttr
/-- the body of such an __init__ -/
structure SupPos where
  (p0 p1 p2 p3 p4 p5 p6 p7 q0 q1 q2 q3 : Pos)
def supBody (z : SupPos) (sl a f : Str) : List Stmt :=
  [.Expr (.Call (.Attribute (.Call (.Name "super" z.p0) [] [] z.p1) "__init__" z.p2) [.Call (.Name "str" z.p3) [.Name a z.p4] [] z.p5] [] z.p6) z.p7, .Assign [.Attribute (.Name sl z.q0) f z.q1] (.Name a z.q2) z.q3]
/-- what is asked of str(v): A0, fs, H, h1 the place, the frames, the tracked heap and the heap ahead, Rv the wish about the tracked heap behind -/
def StrOk (prog : Program) (w : World) (A0 : Around) (fs : List Addr) (os : OsState) (H : L2.Hp) (h1 : Heap) (v : Value) (Rv : L2.Hp → Prop) : Prop :=
  ∀ (A : Around) (E : Value → Shared → Prop) (Q : Value → Shared → Prop) (s : Shared) (L : Addr) (env : Env), A.units + 32 < cLine → A.units ≤ A0.units + 24 → A.depth ≤ A0.depth + 1 → A.handled = A0.handled → A.frames = A0.frames.map (env :: ·) → env.scope.kind ≠ .module → env.frame = some L →
    (∃ o, s.heap.get? L = some o ∧ ∀ vs, o.data ≠ .fields vs) → h1.objs.size ≤ L → (∀ b o, h1.get? b = some o → s.heap.get? b = some o) → s.os = os → AllBare s.gens →
    (∀ u s' H', s'.os = os → AllBare s'.gens → L2.Un (L :: fs) [] H H' s.heap s'.heap → L2.HOk prog w H' s'.heap → Rv H' → Q u s') → wpAny (model prog w) A (call (.type "str") [v]) Q E s
section
variable {prog : Program} {w : World} {A : Around} {R : Result → Shared → Prop} {K : Frag} {mg mb : Str → Option Value} {hp h1 : Heap} {g : Array GenState} {d : Drawn} {tk : Nat} {os : OsState} {B i newId : String} {tail : List Value}
  {C fI cc cda e t0 : Addr} {sl a f nm qual : Str} {v : Value} {params : Arguments} {scope : Scope} {oc dV kV doc pm ct ccl cl : Value} {an od cdd cld : Option Addr} {osl ccs csl : Array (Option Value)} {vs : Array Value} {file : Str} {tf : Tok} {ar : Arg} {z : SupPos} {cd : ClassData}
  {H1 : L2.Hp} {fs : List Addr} {Rv : L2.Hp → Prop}
  {cnm cq : Str} {cN : Addr} {cbs cbm : List Value} {csn : List Str} {csub : List Value} {cab : Bool} {ccol : Option Bool} {cdd2 : Option Addr} {k0 k1 k2 k3' k5 : Option Value}
theorem osa_any {name : Str} {tok : Tok} {x : Addr} {fv : Array Value}
    (X : K.In h1) (hx : h1.get? x = some { cls := .ref C, data := .fields fv }) (hcd : clsIn K C = some cd) (hpass : refuseLoop (.ref x) "__setattr__" cd.mro = pure ()) (hob : mroIn K C (.type "object") = some true) (hh : cd.hasDict = true) (ha : findIn K (.ref C) name = some none)
    (hq : ∀ h' tk' dx, (∀ b o, b ≠ x → h1.get? b = some o → h'.get? b = some o) → h1.objs.size ≤ dx → dx ≠ x → h'.get? x = some { cls := .ref C, dict := some dx, data := .fields fv } →
      h'.Ns1 dx (fun y => if y = name then some v else none) → R (.ok (.ret .none)) ⟨h', g, d, tk', os⟩) :
    codeAny (model prog w) A (.call (.builtin "object.__setattr__") ⟨[.ref x, .str name tok, v], []⟩) R ⟨h1, g, d, tk, os⟩ := by
  have I : InstAt h1 x { cls := .ref C, data := .fields fv } C none := ⟨hx, rfl, rfl, trivial⟩
  have SF := F.store_object
  have hxs : x ≠ h1.objs.size := Nat.ne_of_lt (Heap.lt_size hx)
  have sub : Looks (model prog w) h1 (isInstance (.ref x) (.type "object")) true := I.type.andThen (looks_mroIn X hob)
  refine codeAny_call_builtin SF.slot.plain SF.entry (@check_slot (model prog w) _ _ ⟨h1, g, d, tk, os⟩ "object.__setattr__" "object" "__setattr__" (.ref x) [.str name tok, v] [] _ SF.kind SF.split sub (SF.args (.ref x) (.str name tok) v) ?_)
  have hmr : Looks (model prog w) h1 (mroOf (.ref C)) cd.mro := (looks_clsIn X hcd).andThen .now
  have L3 : Looks (model prog w) h1 (storeTaker? none) none := .now
  have hcls : Looks (model prog w) h1 (classData C) cd := looks_clsIn X hcd
  rw [osa_eq, refuse_eq]
  refine wpAny_bind (wpAny_bind (I.type.at (wpAny_bind (hmr.at ?_))))
  rw [hpass]
  refine wpAny_pure (wpAny_bind (I.type.at (wpAny_bind ((looks_findIn X ha).at (wpAny_bind (L3.at ?_))))))
  show wpAny _ _ (storeInOwnDict (.ref x) (.ref C) (.str name tok) name v false) _ _ _
  obtain ⟨nm, bs, mro, ns, qn, hd, sn, sb, ab, col, del⟩ := cd
  dsimp only at hh
  subst hh
  unfold storeInOwnDict ownDictForStores
  repeat (first | with_reducible refine store_in_new ?_ ?_ | with_reducible refine wpAny_loadPart_at hx ?_ | with_reducible refine hcls.at ?_ | wp_step)
  · exact ⟨_, #[], _, (Heap.get?_update_ne _ _ _ _ hxs.symm).trans (Heap.get?_push_at rfl rfl), rfl, fun e he => absurd he (by simp), fun _ => rfl⟩
  · intro h' tk' hn' hs
    have hx₁ : (h1.push { cls := .type "dict", data := .dict #[] }).get? x = some { cls := .ref C, data := .fields fv } := Heap.get?_push_of_some _ hx
    refine hq h' tk' h1.objs.size (fun b o hb ho => ?_) (Nat.le_refl _) hxs.symm ?_ hn'
    · exact (hs.2 b (Nat.ne_of_lt (Heap.lt_size ho))).trans ((Heap.get?_update_ne _ _ _ _ hb).trans (Heap.get?_push_of_some _ ho))
    · exact (hs.2 x hxs).trans (Heap.get?_update_self _ hx₁ rfl)
/-- super().__init__(..), bound, called -/
theorem call_bound {u : Addr} {rest : List Value} {Q : Value → Shared → Prop} {E : Value → Shared → Prop} (FB : ExcBaseFacts B newId i tail)
    (hC : h1.get? C = some (excClassObj cnm cq C cN cbs cbm true csn csub cab ccol cdd2 k0 k1 k2 k3' k5 newId)) (he : h1.get? e = some (excO C t0)) (hu : h1.get? u = some (kxs_mw i e)) (hz : rest.length ≤ sizeLine)
    (hq : ∀ h' t1, (∀ b o, b ≠ e → h1.get? b = some o → h'.get? b = some o) → h'.get? e = some (excO C t1) → Q .none ⟨h', g, d, tk, os⟩) :
    wpAny (model prog w) A (call (.ref u) rest) Q E ⟨h1, g, d, tk, os⟩ := by
  refine wpAny_call (codeAny_of_tree ?_)
  show wpAny _ A.in1 (callAny (.ref u) ⟨rest, []⟩) _ _ _
  simp only [callAny]
  refine wpAny_bind (wpAny_load hu ?_)
  simp only [kxs_mw, show (Value.type "method-wrapper" == Value.type "method" || Value.type "method-wrapper" == Value.type "builtin_function_or_method" || Value.type "method-wrapper" == Value.type "method-wrapper") = true by decide, if_true]
  refine KFB.if_so (by decide) ?_
  refine wpAny_bind (check_bound_init FB.toExcCallFacts hC he rfl ?_)
  refine wpAny_bind (wpAny_pure (wpAny_pure ?_))
  refine ⟨plainId_quiet FB.init.plain _, codeAny_builtin FB.initEntry ?_⟩
  exact exc_init_tree (cls := .ref C) (t0 := t0) (dv := none) (c2 := .none) (c3 := .none) (b4 := .bool false) he hz fun h' k e' _ => hq h' _ k e'
theorem callWith_bnd {M : Model} {E : Value → Shared → Prop} {s : Shared} {pos : Pos} {env : Env} {x : Expr} {u y : Addr} {Q : Value → Shared → Prop}
    (h : wpAny M A (spliced (backTo pos (starEach [x] env))) (fun us s₁ => KxsAt i u y s₁.heap ∧ wpAny M A (call (.ref u) us) Q E s₁) E s)
    (hx : starEach [x] env = (false, eval x env) :: starEach [] env) : wpAny M A (callWith pos (.ref u) [] (backTo pos (starEach [x] env)) []) Q E s := by
  rw [hx] at h ⊢
  exact kxs_callWith (i := i) (x := y) rfl (evalArgs_plain h)
/-- the whole __init__ -/
theorem sup_init (KF : KxsFacts B i) (FB : ExcBaseFacts B newId i tail)
    (X : K.In hp) (hk1 : ∀ b o, hp.get? b = some o → h1.get? b = some o) (G : hp.Ns mainGlobals mg) (Gb : hp.Ns builtinsNs mb) (hmb : ∀ x : Str, x ≠ "__name__" → mb x = bootBuiltins x) (nl : h1.NoLimit)
    (he : h1.get? e = some (excO C t0)) (hne : hp.get? e = none)
    (hf : K.lookup fI = some ⟨oc, od, .func (ksFn nm qual params (supBody z sl a f) scope dV kV doc pm an (.ref cda) ct cc), osl⟩) (hcI : codeIn K (.ref cda) qual = true)
    (hcode : K.lookup cda = some ⟨ccl, cdd, .fields vs, ccs⟩) (hvs : vs[2]? = some (.str file tf)) (hfile : ((prog.main.file : Str) == file) = true)
    (hcell : K.lookup cc = some ⟨cl, cld, .cell (some (.ref C)), csl⟩)
    (hC : K.lookup C = some (excClassObj cnm cq C cN cbs cbm true csn csub cab ccol cdd2 k0 k1 k2 k3' k5 newId)) (hsuper : mg "super" = none) (hstrM : mg "str" = none)
    (hop : Looks (model prog w) h1 (opaqueClassAbove (.ref C)) none) (hal : alongIn K "__init__" cbm = some (some (.builtin i))) (hB : subIn K (.ref C) (.type B) = some true) (hCC : mroIn K C (.ref C) = some true)
    (hpass : refuseLoop (.ref e) "__setattr__" (.ref C :: cbm) = pure ()) (hob : mroIn K C (.type "object") = some true) (hfa : findIn K (.ref C) f = some none) (hsa : findIn K (.ref C) "__setattr__" = some (some (.builtin "object.__setattr__")))
    (hp1 : (params.posonlyargs ++ params.args).head? = some ar) (har : ar.arg = sl) (hbind : ∀ u1 u2 : Value, bindArgs (ksFn nm qual params (supBody z sl a f) scope dV kV doc pm an (.ref cda) ct cc) ⟨[u1, u2], []⟩ = pure [(sl, u1), (a, u2)])
    (hroom : A.depth < recursionLimit) (hun : A.units + 64 < cLine) (hsla : (a == sl) = false)
    (hk : scope.kind = .function) (hks : scope.names.lookup ("super" : Str) = some .globalImplicit) (hkt : scope.names.lookup ("str" : Str) = some .globalImplicit) (hkc : scope.names.lookup ("__class__" : Str) = some .free) (hkS : scope.names.lookup sl = some .local) (hkA : scope.names.lookup a = some .local)
    (hcells : ∀ x ∈ scope.names, x.2 ≠ .cell) (hco : scope.isCoroutine = false) (hgen : scope.isGenerator = false) (htop : (prog.main.scope.names.lookup ("super" : Str)).isSome = false)
    (hpn : ∀ b o, hp.get? b = some o → H1 b = none ∧ b ∉ fs) (hen : H1 e = none ∧ e ∉ fs) (hfr : ∀ b, h1.objs.size ≤ b → H1 b = none ∧ b ∉ fs) (hbare : AllBare g)
    (hstr : StrOk prog w A fs os H1 h1 v Rv)
    (hev : ∀ L : Addr, ∃ pl : Sem Bool, eval (.Call (.Attribute (.Call (.Name "super" z.p0) [] [] z.p1) "__init__" z.p2) [.Call (.Name "str" z.p3) [.Name a z.p4] [] z.p5] [] z.p6) (ksEnv qual scope L fI (.ref cda) cc) = (do
      let ov ← attributeBase (.Call (.Name "super" z.p0) [] [] z.p1) "__init__" (ksEnv qual scope L fI (.ref cda) cc) (eval (.Call (.Name "super" z.p0) [] [] z.p1) (ksEnv qual scope L fI (.ref cda) cc))
      standAt z.p2.atName
      let (f, first) ← holding [ov] (getMethod ov "__init__" pl)
      callWith z.p6 f first (backTo z.p6 (starEach [.Call (.Name "str" z.p3) [.Name a z.p4] [] z.p5] (ksEnv qual scope L fI (.ref cda) cc))) []))
    (hevS : ∀ L : Addr, eval (.Call (.Name "str" z.p3) [.Name a z.p4] [] z.p5) (ksEnv qual scope L fI (.ref cda) cc) = (do callWith z.p5 (← eval (.Name "str" z.p3) (ksEnv qual scope L fI (.ref cda) cc)) [] (backTo z.p5 (starEach [.Name a z.p4] (ksEnv qual scope L fI (.ref cda) cc))) (backToKw z.p5 (keywordEach [] (ksEnv qual scope L fI (.ref cda) cc)))))
    (hda : (a == ("__debug__" : Str)) = false) (hds : (sl == ("__debug__" : Str)) = false)
    (hint : ∀ L : Addr, interactive (ksEnv qual scope L fI (.ref cda) cc) = false)
    (hsw1 : ∀ L : Addr, swapsWith (.Call (.Attribute (.Call (.Name "super" z.p0) [] [] z.p1) "__init__" z.p2) [.Call (.Name "str" z.p3) [.Name a z.p4] [] z.p5] [] z.p6) none z.p7.line (ksEnv qual scope L fI (.ref cda) cc) = pure false)
    (hsw2 : ∀ L : Addr, swapsWith (.Name a z.q2) (some (.Attribute (.Name sl z.q0) f z.q1)) z.q3.line (ksEnv qual scope L fI (.ref cda) cc) = pure false)
    (hq : ∀ h' g' d' tk' dx t1 h5 H5, AllBare g' → L2.Un fs [] H1 H5 h1 h5 → L2.HOk prog w H5 h5 → Rv H5 → (∀ b o, b ≠ e → h5.get? b = some o → h'.get? b = some o) → H5 dx = none → (∀ b o, h5.get? b = some o → b ≠ dx) → e < dx → h'.get? e = some { cls := .ref C, dict := some dx, data := .fields #[.ref t1, .none, .none, .none, .bool false, .none] } →
      h'.Ns1 dx (fun y => if y = f then some v else none) → R (.ok (.ret .none)) ⟨h', g', d', tk', os⟩) :
    codeAny (model prog w) A (.call (.ref fI) ⟨[.ref e, v], []⟩) R ⟨h1, g, d, tk, os⟩ := by
  have X1 : K.In h1 := X.keeps hk1
  refine ks_codeAny_call_defAt (fd := ksFn nm qual params (supBody z sl a f) scope dV kV doc pm an (.ref cda) ct cc) (body := supBody z sl a f) (binds := [(sl, .ref e), (a, v)]) hroom (X1 _ _ hf) rfl nl (codeRec_of X1 hcI) rfl (.of_eq (hbind _ _)) hcells ?hloc (fun h2 hns hk2 => ?_) hco hgen hk
  case hloc =>
    intro x hx
    rcases List.mem_cons.mp hx with rfl | hx
    · exact hkS
    · obtain rfl := List.mem_singleton.mp hx
      exact hkA
  have hb1 : (([(sl, Value.ref e), (a, v)] : List (Str × Value)).reverse.lookup sl) = some (.ref e) := by
    show ([(a, v), (sl, Value.ref e)] : List (Str × Value)).lookup sl = _
    have : (sl == a) = false := by
      rw [Bool.eq_false_iff] at hsla ⊢
      exact fun q => hsla (by rw [beq_iff_eq.mp q]; exact beq_self_eq_true _)
    simp [List.lookup, this]
  have hb2 : (([(sl, Value.ref e), (a, v)] : List (Str × Value)).reverse.lookup a) = some v := by
    show ([(a, v), (sl, Value.ref e)] : List (Str × Value)).lookup a = _
    simp [List.lookup]
  have X2 : K.In h2 := X1.keeps hk2
  obtain ⟨pl, hpl⟩ := hev h1.objs.size
  refine ks_wpAt_execs_cons (ks_wpAt_Expr_any (ks_wpAt_MethodCall (pl := pl) ?_ hpl) (hi := hint h1.objs.size) (hs := hsw1 h1.objs.size))
  have hks' : (ksEnv qual scope h1.objs.size fI (.ref cda) cc).kindOf "super" = some .globalImplicit := hks
  have hkc' : (ksEnv qual scope h1.objs.size fI (.ref cda) cc).kindOf "__class__" = some .free := hkc
  have he2 : h2.get? e = some (excO C t0) := hk2 _ _ he
  have hC2 : h2.get? C = some (excClassObj cnm cq C cN cbs cbm true csn csub cab ccol cdd2 k0 k1 k2 k3' k5 newId) := X2 _ _ hC
  have hcl : clsIn K C = some { name := cnm, bases := cbs, mro := .ref C :: cbm, ns := cN, qualname := cq, hasDict := true, slotNames := csn, subclasses := csub, abstract := cab, collection := ccol, hasDel := false } := by unfold clsIn; rw [hC] <;> rfl
  have hxC : e ≠ C := fun q => by
    have := X _ _ hC
    rw [← q, hne] at this
    cases this
  subst har
  refine ks_wpAt_super_base (env := ksEnv qual scope h1.objs.size fI (.ref cda) cc) hks' hkc' rfl rfl (X2 _ _ hf) rfl hp1 rfl (X2 _ _ hcode) rfl hvs hfile htop ?_
  refine ks_loadName_global hk hks' (loadGlobal_builtin (env := ksEnv qual scope h1.objs.size fI (.ref cda) cc) ((G.keeps hk1).keeps hk2) hsuper ((Gb.keeps hk1).keeps hk2) ((hmb _ (by decide +kernel)).trans (by kernel_rfl)) ⟨rfl, ?_⟩)
  refine wpAny_loadName_free hk hkc' rfl ⟨_, X2 _ _ hcell, rfl⟩ ?_
  refine wpAny_loadName_local hk (show (ksEnv qual scope h1.objs.size fI (.ref cda) cc).kindOf ar.arg = some .local from hkS) hns hb1 ?_
  refine ks_wpAny_isType_cls hC2 rfl ⟨rfl, ?_⟩
  refine ks_wpAny_call_super hC2 rfl he2 rfl (fun c => by intro q; cases q) (looks_mroIn X2 hCC) (fun h3 e3 k3 => ?_)
  have X3 : K.In h3 := X2.keeps k3
  have he3 : h3.get? e = some (excO C t0) := k3 _ _ he2
  have I3 : InstAt h3 e (excO C t0) C none := ⟨he3, rfl, rfl, trivial⟩
  refine kxs_getMethod KF e3 ((hop.keeps hk2).keeps k3) ((looks_clsIn X3 hcl).andThen .now) (l := cbm) (by simp) X3 hal (I3.type.andThen (looks_subIn X3 hB)) hxC rfl ?_
  have kp : ∀ b o, h3.get? b = some o → (h3.push (kxs_mw i e)).get? b = some o := fun b o q => Heap.get?_push_of_some _ q
  have hu : (h3.push (kxs_mw i e)).get? h3.objs.size = some (kxs_mw i e) := Heap.get?_push_size _ rfl
  have hns3 : (h3.push (kxs_mw i e)).Ns h1.objs.size (fun x => ([(ar.arg, Value.ref e), (a, v)] : List (Str × Value)).reverse.lookup x) := (hns.keeps k3).keeps kp
  have he4 := kp _ _ he3
  have k14 : ∀ b o, h1.get? b = some o → (h3.push (kxs_mw i e)).get? b = some o := fun b o q => kp _ _ (k3 _ _ (hk2 _ _ q))
  generalize h3.push (kxs_mw i e) = h4 at *
  have hse : starEach [.Call (.Name "str" z.p3) [.Name a z.p4] [] z.p5] (ksEnv qual scope h1.objs.size fI (.ref cda) cc) = (false, eval (.Call (.Name "str" z.p3) [.Name a z.p4] [] z.p5) (ksEnv qual scope h1.objs.size fI (.ref cda) cc)) :: starEach [] (ksEnv qual scope h1.objs.size fI (.ref cda) cc) := rfl
  show wpAny (model prog w) _ (callWith z.p6 (.ref h3.objs.size) [] (backTo z.p6 (starEach [.Call (.Name "str" z.p3) [.Name a z.p4] [] z.p5] (ksEnv qual scope h1.objs.size fI (.ref cda) cc))) []) _ _ _
  have hC4 : h4.get? C = some (excClassObj cnm cq C cN cbs cbm true csn csub cab ccol cdd2 k0 k1 k2 k3' k5 newId) := k14 _ _ (X1 _ _ hC)
  have X4 : K.In h4 := X1.keeps k14
  refine callWith_bnd (i := i) (y := e) (PyProof.Rows.args_cons ?_ hse) hse
  have hkt' : (ksEnv qual scope h1.objs.size fI (.ref cda) cc).kindOf "str" = some .globalImplicit := hkt
  refine Call_ (Name_function_global hk hkt' (loadGlobal_builtin (env := ksEnv qual scope h1.objs.size fI (.ref cda) cc) (G.keeps fun b o q => k14 b o (hk1 b o q)) hstrM (Gb.keeps fun b o q => k14 b o (hk1 b o q)) ((hmb _ (by decide +kernel)).trans boot_str) ?_)) ?hCall
  case hCall => exact hevS h1.objs.size
  refine PyProof.Rows.callWith_type1 (PyProof.Rows.args_cons (wpAny_Name (wpAny_loadName_local (m := fun x => ([(ar.arg, Value.ref e), (a, v)] : List (Str × Value)).reverse.lookup x) hk (show (ksEnv qual scope h1.objs.size fI (.ref cda) cc).kindOf a = some .local from hkA) hns3 hb2 (PyProof.Rows.args_nil ?_)) hda) rfl) rfl rfl
  have hL3 : h1.objs.size < h3.objs.size := (hns.keeps k3).lt
  have nL : h1.objs.size ≠ e := Nat.ne_of_gt (Heap.lt_size he)
  obtain ⟨oL, esL, epL, hoL, hdL, hkL, hnL⟩ := id hns3
  refine hstr _ _ _ _ h1.objs.size (ksEnv qual scope h1.objs.size fI (.ref cda) cc) (by simp only [Around.units, Around.deeper, Around.in1] at hun ⊢; omega) (by simp only [Around.units, Around.deeper, Around.in1]; omega) (Nat.le_refl _) rfl rfl (by show scope.kind ≠ _; rw [hk]; decide) rfl
    ⟨oL, hoL, fun vs z => by rw [hdL] at z; cases z⟩ (Nat.le_refl _) k14 rfl hbare fun us s5 H5 ho5 hb5 un5 hok5 hR5 => ?_
  obtain ⟨h5, g5, d5, tk5, os5⟩ := s5
  obtain rfl : os5 = os := ho5
  have kU : ∀ b o, h4.get? b = some o → b ≠ h1.objs.size → H1 b = none → b ∉ fs → h5.get? b = some o := fun b o q n1 n2 n3 => un5.keep b o q n2 (fun z => by
    rcases List.mem_cons.mp z with z | z
    · exact n1 z
    · exact n3 z) (fun z => by cases z)
  have hu5 := kU _ _ hu (Nat.ne_of_gt hL3) (hfr _ (Nat.le_of_lt hL3)).1 (hfr _ (Nat.le_of_lt hL3)).2
  have he5 := kU _ _ he4 nL.symm hen.1 hen.2
  have hb5' : ∀ b o, hp.get? b = some o → h5.get? b = some o := fun b o q => kU b o (k14 b o (hk1 b o q)) (Nat.ne_of_lt (Heap.lt_size (hk1 b o q))) (hpn b o q).1 (hpn b o q).2
  have hns5 : h5.Ns h1.objs.size (fun x => ([(ar.arg, Value.ref e), (a, v)] : List (Str × Value)).reverse.lookup x) := by
    obtain ⟨sl, e5⟩ := un5.slot _ _ hoL (hfr _ (Nat.le_refl _)).1 List.mem_cons_self (fun z => by cases z)
    exact ⟨_, esL, epL, e5, hdL, hkL, hnL⟩
  have un15 : L2.Un fs [] H1 H5 h1 h5 := {
    keep := fun b o q n hb _ => kU b o (k14 b o q) (Nat.ne_of_lt (Heap.lt_size q)) n hb
    slot := fun b o q n hb hx => un5.slot b o (k14 b o q) n (List.mem_cons_of_mem _ hb) hx
    free := fun b o q n hx => un5.free b o (k14 b o q) n hx
    there := fun b o q hx => un5.there b o (k14 b o q) hx
    tups := un5.tups
    frzs := un5.frzs
    tbls := un5.tbls }
  have X5 : K.In h5 := X.keeps hb5'
  have hC5 : h5.get? C = some (excClassObj cnm cq C cN cbs cbm true csn csub cab ccol cdd2 k0 k1 k2 k3' k5 newId) := X5 _ _ hC
  refine PyProof.Rows.args_nil ⟨hu5, ?_⟩
  refine call_bound (rest := [us]) FB hC5 he5 hu5 (by show 1 ≤ sizeLine; decide) fun h6 t6 k6h he6 => ?_
  have hns6 : h6.Ns h1.objs.size (fun x => ([(ar.arg, Value.ref e), (a, v)] : List (Str × Value)).reverse.lookup x) := hns5.at fun o q => k6h _ _ nL q
  have X6 : K.In h6 := X.keeps fun b o q => k6h b o (fun y => by rw [y, hne] at q; cases q) (hb5' b o q)
  refine ks_wpAt_execs_cons (ks_wpAt_Assign_Attr ?_ (hs := hsw2 h1.objs.size))
  refine wpAt_of_wpAny (wpAny_Name (wpAny_loadName_local (m := fun x => ([(ar.arg, Value.ref e), (a, v)] : List (Str × Value)).reverse.lookup x) hk (show (ksEnv qual scope h1.objs.size fI (.ref cda) cc).kindOf a = some .local from hkA) hns6 hb2 ?_) hda)
  refine wpAny_Name (wpAny_loadName_local (m := fun x => ([(ar.arg, Value.ref e), (a, v)] : List (Str × Value)).reverse.lookup x) hk (show (ksEnv qual scope h1.objs.size fI (.ref cda) cc).kindOf ar.arg = some .local from hkS) hns6 hb1 ?_) hds
  refine set_plain X6 (ox := excO C t6) (od := none) ⟨he6, rfl, rfl, trivial⟩ hsa ?_
  refine osa_any X6 he6 hcl hpass hob rfl hfa fun h7 tk7 dx k7 hdx ndx he7 hn7 => ?_
  refine wpAt_of_wpAny (wpAny_execs_nil ?_)
  have hE5 : H5 e = none := un15.free e _ he hen.1 (fun z => by cases z)
  have hok6 : L2.HOk prog w H5 h6 := fun b o q => (hok5 b o q).stay (fun c u hc z => k6h c u (fun y => by
    subst y
    rcases hc with hc | hc
    · rw [← hc, hE5] at q
      cases q
    · rw [hE5] at hc
      cases hc) z) (fun c hc => hc) (fun c xs hc => hc)
  exact hq h7 g5 d5 _ dx t6 h5 H5 hb5 un15 hok5 hR5 (fun b o n q => k7 b o n (k6h b o n q)) (hok6.fresh hdx) (fun b o q z => by
    subst z
    by_cases hb : b = e
    · exact ndx hb
    · exact absurd (Nat.lt_of_lt_of_le (Heap.lt_size (k6h b o hb q)) hdx) (Nat.lt_irrefl _)) (Nat.lt_of_lt_of_le (Heap.lt_size he6) hdx) he7 hn7
end
end Wo

namespace Wo
open PySem PySem.Spec PyProof.Rows L2
/-- an own exception class whose __init__(self, a) says super().__init__(str(a)); self.f = a: made, it has the field f -/
structure SupX (P : Program) (w : World) (K : PySem.W.Frag) (mg : Str → Option Value) (C : Addr) (f : Str) : Prop where
  run : ∃ (fI : Addr) (B i newId : String) (tail bmB : List Value), ExcBaseFacts B newId i bmB ∧ (∀ T : String, tail.contains (.type T) = bmB.contains (.type T)) ∧ PySem.W.findIn K (.ref C) "__init__" = some (some (.ref fI)) ∧ PySem.W.typeIn K (.ref fI) = some (.type "function") ∧
    (∃ nm q N bs sn sub ab col dd k0 k1 k2 k3 k5, K.lookup C = some (excClassObj nm q C N bs tail true sn sub ab col dd k0 k1 k2 k3 k5 newId)) ∧
    ∀ (A : Around) (R : Result → Shared → Prop) (hp h1 : Heap) (g : Array GenState) (d : Drawn) (tk : Nat) (os : OsState) (e t0 : Addr) (v : Value) (mb : Str → Option Value), K.In hp → (∀ b o, hp.get? b = some o → h1.get? b = some o) → hp.Ns mainGlobals mg → hp.Ns builtinsNs mb →
      (∀ x : Str, x ≠ "__name__" → mb x = bootBuiltins x) → h1.NoLimit → h1.get? e = some (PySem.HandSPX.excO C t0) → hp.get? e = none → A.depth < recursionLimit → A.units + 64 < cLine →
      ∀ (fs : List Addr) (H1 : Hp) (Rv : Hp → Prop), (∀ b o, hp.get? b = some o → H1 b = none ∧ b ∉ fs) → (H1 e = none ∧ e ∉ fs) → (∀ b, h1.objs.size ≤ b → H1 b = none ∧ b ∉ fs) → AllBare g → StrOk P w A fs os H1 h1 v Rv →
      (∀ h' g' d' tk' dx t1 h5 H5, AllBare g' → Un fs [] H1 H5 h1 h5 → HOk P w H5 h5 → Rv H5 → (∀ b o, b ≠ e → h5.get? b = some o → h'.get? b = some o) → H5 dx = none → (∀ b o, h5.get? b = some o → b ≠ dx) → e < dx → h'.get? e = some { cls := .ref C, dict := some dx, data := .fields #[.ref t1, .none, .none, .none, .bool false, .none] } →
        h'.Ns1 dx (fun y => if y = f then some v else none) → R (.ok (.ret .none)) ⟨h', g', d', tk', os⟩) → codeAny (model P w) A (.call (.ref fI) ⟨[.ref e, v], []⟩) R ⟨h1, g, d, tk, os⟩
  exC : PySem.W.subIn K (.ref C) (.type "BaseException") = some true
  tyC : PySem.W.typeIn K (.ref C) = some (.type "type")
  kC : PySem.W.keepIn K (.ref C) = true
/-- a value whose text is known to be made -/
def StrV : V → Prop
  | .int i => i.natAbs.log2 < 1920
  | .non => True
  | .bl _ => True
  | .str _ => True
  | _ => False
/-- a tuple's items whose texts are known, and short -/
def StrT (xs : List V) : Prop := ∃ ts : List Str, (∀ us, Vals xs us → ∀ (prog : Program) (w : World), ReprAll prog w us ts) ∧ 0 + (tupleText ts).length ≤ sizeLine
/-- the same, or such a tuple -/
def StrH (H : Hp) : V → Prop
  | .ref p => ∃ xs, H p = some (.tup xs) ∧ StrT xs
  | v => StrV v
theorem digits10 {i : Int} (h1 : 0 ≤ i) (h2 : i < 10) : i = 0 ∨ i = 1 ∨ i = 2 ∨ i = 3 ∨ i = 4 ∨ i = 5 ∨ i = 6 ∨ i = 7 ∨ i = 8 ∨ i = 9 := by omega
theorem StrT.nil : StrT [] := ⟨[], fun us h => by cases h; exact fun _ _ => .nil, by decide⟩
theorem StrT.digit {i : Int} (h1 : 0 ≤ i) (h2 : i < 10) : StrT [.int i] := by
  refine ⟨[toString i], fun us r => ?_, ?_⟩
  · cases r with
    | cons r1 r2 =>
      cases r2
      obtain ⟨t, rfl⟩ := (show ∃ t, _ = Value.int i t from r1)
      exact fun _ _ => .cons (.int t (by
        have : i.natAbs < 10 := by omega
        exact Nat.lt_of_le_of_lt (Nat.log2_le_self _) (by omega))) .nil
  · rcases digits10 h1 h2 with rfl | rfl | rfl | rfl | rfl | rfl | rfl | rfl | rfl | rfl <;> decide +kernel
theorem StrT.word {z : Str} (hz : (reprText z).length ≤ sizeLine) (hl : 0 + (tupleText [reprText z]).length ≤ sizeLine) : StrT [.str z] := by
  refine ⟨[reprText z], fun us r => ?_, hl⟩
  cases r with
  | cons r1 r2 =>
    cases r2
    obtain ⟨t, rfl⟩ := (show ∃ t, _ = Value.str z t from r1)
    exact fun _ _ => .cons (.str z t hz) .nil
theorem StrT.wordI {z : Str} {i : Int} (h1 : 0 ≤ i) (h2 : i < 10) (hz : (reprText z).length ≤ sizeLine) (hl : ∀ i : Int, i ∈ [0, 1, 2, 3, 4, 5, 6, 7, 8, 9] → 0 + (tupleText [reprText z, toString i]).length ≤ sizeLine) : StrT [.str z, .int i] := by
  refine ⟨[reprText z, toString i], fun us r => ?_, hl i (by rcases digits10 h1 h2 with rfl | rfl | rfl | rfl | rfl | rfl | rfl | rfl | rfl | rfl <;> decide)⟩
  cases r with
  | cons r1 r2 =>
    cases r2 with
    | cons r3 r4 =>
      cases r4
      obtain ⟨t, rfl⟩ := (show ∃ t, _ = Value.str z t from r1)
      obtain ⟨t', rfl⟩ := (show ∃ t, _ = Value.int i t from r3)
      exact fun _ _ => .cons (.str z t hz) (.cons (.int t' (by
        have : i.natAbs < 10 := by omega
        exact Nat.lt_of_le_of_lt (Nat.log2_le_self _) (by omega))) .nil)
theorem StrH.unit {H : Hp} {p : Addr} (h : H p = some (.tup [])) : StrH H (.ref p) := ⟨_, h, .nil⟩
theorem StrH.digit {H : Hp} {p : Addr} {i : Int} (h : H p = some (.tup [.int i])) (h1 : 0 ≤ i) (h2 : i < 10) : StrH H (.ref p) := ⟨_, h, .digit h1 h2⟩
theorem StrH.to {H H' : Hp} {v : V} (e : ∀ p xs, H p = some (.tup xs) → H' p = some (.tup xs)) (h : StrH H v) : StrH H' v := by
  cases v with
  | ref p =>
    obtain ⟨xs, h1, h2⟩ := h
    exact ⟨xs, e _ _ h1, h2⟩
  | _ => exact h
theorem tuple_repr0 {prog : Program} {w : World} {A : Around} {a : Addr} {o : Obj} {n : Nat} {items : Array Value} {ts : List Str} {E : Value → Shared → Prop} {s : Shared} {Q : Value → Shared → Prop} (ha : s.heap.get? a = some o) (hc : o.cls = .type "tuple") (hd : o.data = .seq items n)
    (hT : ReprAll prog w items.toList ts) (hsz : 0 + (tupleText ts).length ≤ sizeLine) (hQ : ∀ x u tk, Q (.str x u) { s with toks := tk }) : wpAny (model prog w) A (call (.builtin "tuple.__repr__") [.ref a]) Q E s := by
  refine wpAny_call (codeAny_call_builtin_own (Code.quiet_builtin _ (by decide +kernel)) F.entry_tuple_repr (F.slot_tuple_repr.check _ _ _ _ _ _ _ _ ⟨o, ha, hc⟩ (F.args_tuple_repr_1 _) (wpOwn_of_wpAny ?_)))
  show wpAny _ _ (Builtin.tupleReprAt 0 ⟨[.ref a], []⟩) _ _ _
  rw [tuple_repr_tree, tupleReprUnderWay_eq]
  refine wpAny_bind (wpAny_bind (wpAny_stack_any fun st => wpAny_pure ?_))
  by_cases hb : st.tail.any (tupGuardF (.ref a)) = true
  · rw [if_pos hb]
    refine wpAny_bind (wpAny_rule (wpAny_bind (wpAny_mkStr (wpAny_pure (hQ _ _ _)) (by decide))))
  · rw [if_neg hb]
    exact wpAny_tupleReprRest ha hd hT (fun u tk => hQ _ _ _) hsz
theorem strOk_plain {P : Program} {w : World} {A0 : Around} {fs : List Addr} {os : OsState} {H : Hp} {h : Heap} {v : Value} {Rv : Hp → Prop} (hk : HOk P w H h) (hR : Rv H)
    (k : ∀ (A : Around) (E : Value → Shared → Prop) (Q : Value → Shared → Prop) (s : Shared), A.units + 32 < cLine → (∀ b o, h.get? b = some o → s.heap.get? b = some o) → (∀ u t, Q u { s with toks := t }) → wpAny (model P w) A (call (.type "str") [v]) Q E s) : StrOk P w A0 fs os H h v Rv :=
  fun A E Q s L env hu _ _ _ _ _ _ _ _ hk0 ho hb q => k A E Q s hu hk0 fun u t => q u { s with toks := t } H ho hb .refl (hk.kept hk0) hR
theorem strOk_tup {P : Program} {w : World} {A0 : Around} {fs : List Addr} {os : OsState} {H : Hp} {Rv : Hp → Prop} {h : Heap} {p : Addr} {o : Obj} {n : Nat} {items : Array Value} {ts : List Str} (hk : HOk P w H h) (hR : Rv H) (hp : h.get? p = some o) (hcl : o.cls = .type "tuple") (hd : o.data = .seq items n) (hT : ∀ (prog : Program) (w : World), ReprAll prog w items.toList ts) (hsz : 0 + (tupleText ts).length ≤ sizeLine) : StrOk P w A0 fs os H h (.ref p) Rv := by
  refine strOk_plain hk hR fun A E Q s hu hk0 q => ?_
  have ha := hk0 _ _ hp
  exact callType_new F.called_str (by decide) (F.typeCall_str_1 _) (F.newCall_str_1 _) (fun obj => F.args_object_init_2 obj _) F.entry_str_new
    (meets_str_new (S := fun A' R s' => A'.units + 2 < cLine ∧ (∃ o, s'.heap.get? p = some o ∧ o.cls = .type "tuple" ∧ o.data = .seq items n) ∧ (∀ x u tk, R (.ok (.ret (.str x u))) { s' with toks := tk }))
      fun prog' w' A' R s' h => wpAny_strOf_slot rfl (by show A'.units + 1 + 1 < cLine; have := h.1; omega) ⟨_, h.2.1.choose_spec.1, h.2.1.choose_spec.2.1⟩ F.slot_tuple_str F.slot_tuple_repr
        (tuple_repr0 h.2.1.choose_spec.1 h.2.1.choose_spec.2.1 h.2.1.choose_spec.2.2 (hT prog' w') hsz fun x u tk => ⟨_, _, rfl, h.2.2 x u tk⟩))
    ⟨by show A.units + 1 + 2 < cLine; omega, ⟨_, ha, hcl, hd⟩, fun x u tk => ⟨typeIs_str _ _ _, q _ _⟩⟩
theorem strOk_of {P : Program} {w : World} {A0 : Around} {fs : List Addr} {os : OsState} {Rv : Hp → Prop} {H : Hp} {h : Heap} {x : V} {v : Value} (r : RelV x v) (hk : HOk P w H h) (k : StrH H x) (hR : Rv H) : StrOk P w A0 fs os H h v Rv := by
  cases x with
  | int i =>
    obtain ⟨t, e⟩ := (show ∃ t, v = Value.int i t from r)
    subst e
    exact strOk_plain hk hR fun A E Q s _ _ q => PySem.P.str_of_int k (q _ _)
  | non =>
    obtain rfl := (show v = Value.none from r)
    exact strOk_plain hk hR fun A E Q s _ _ q => PySem.P.str_of_none (q _ _)
  | bl b =>
    obtain rfl := (show v = Value.bool b from r)
    exact strOk_plain hk hR fun A E Q s _ _ q => PySem.P.str_of_bool (q _ _)
  | str y =>
    obtain ⟨t, e⟩ := (show ∃ t, v = Value.str y t from r)
    subst e
    exact strOk_plain hk hR fun A E Q s _ _ q => PySem.P.str_of_str (q _ s.toks)
  | ref p =>
    obtain rfl := (show v = Value.ref p from r)
    obtain ⟨xs, k, ts, h1, h2⟩ := k
    obtain ⟨hz, us, r, o, hp, hcl, n, hd⟩ := hk p _ k
    exact strOk_tup hk hR hp hcl hd (h1 us r) h2
  | _ => exact k.elim
theorem pmk_supG {X : Cx} {x f : Str} {C : Addr} {k : Nat} {e : Expr} {te : TE} {p pos : Pos} {OKv : V → Hp → (Hp → Prop) → Prop} (T : SupX X.prog X.w X.K X.mg C f) (hr : Room (k + 1) X.A) (hm : X.mg x = some (.ref C)) (ha : PE X e te)
    (hOK : ∀ (A0 : Around) (pins : List (Addr × Obj)) (σ : L2.St) (H : Hp) (s : Shared) (v : V) (u : Value) (Rv : Hp → Prop) (h1 : Heap), L2.Inv X pins σ H s → RelV v u → (∀ b o, s.heap.get? b = some o → h1.get? b = some o) → s.heap.objs.size ≤ h1.objs.size → Room k A0 → A0.frames = some X.stack → OKv v H Rv → StrOk X.prog X.w A0 (frs X.stack) s.os H h1 u Rv)
    (hg : Gl X x := by rfl) (hdb : (x == ("__debug__" : Str)) = false := by decide) (he : starEach [e] X.env = (false, eval e X.env) :: starEach [] X.env := by rfl) :
    PMk X (.Call (.Name x p) [e] [] pos) (fun σ H Q => te σ H fun v H1 => OKv v H1 fun H' => ∀ d, H' d = none → Q (.ref C) (some d) (upd H' d (.xd [(f, v)]))) := by
  intro pins s σ H Q I h
  obtain ⟨fI, B, i, newId, tail, bmB, FB, hT, iC, tI, ⟨nm, q, N, bs, sn, sub, ab, col, dd, k0, k1, k2, k3, k5, hC⟩, run⟩ := T.run
  refine wpAny_Call_Name_kw (ld_glob I hg hm ?_ hdb)
  refine PySem.W.callWith_K (h₀ := X.base) I.ok.mod.kin T.kC ?_ he rfl
  refine PyProof.Rows.args_cons (thn (ha.run pins s σ H _ I h) fun u s1 ⟨v, H1, I1, r1, hs⟩ => PyProof.Rows.args_nil ⟨I1.kIn, ?_⟩) he
  show wpAny _ _ (call (.ref C) [u]) _ _ _
  obtain ⟨mb, hb1, hb2⟩ := I1.mod.blt
  have hLim : s1.heap.NoLimit := I1.mod.nolimit.keeps I1.bk
  obtain ⟨hp, g, dr, tk, os⟩ := s1
  have hsz : hp.objs.size ≤ hp.objs.size + 1 := Nat.le_succ _
  have hn : H1 (hp.objs.size + 1) = none := I1.hok.fresh hsz
  have kk : ∀ b o, hp.get? b = some o → ((hp.push (PySem.W.kdv_tup [u])).push (PySem.HandSPX.excO C hp.objs.size)).get? b = some o := fun b o e => Heap.get?_push_of_some _ (Heap.get?_push_of_some _ e)
  have hget : ((hp.push (PySem.W.kdv_tup [u])).push (PySem.HandSPX.excO C hp.objs.size)).get? (hp.objs.size + 1) = some (PySem.HandSPX.excO C hp.objs.size) := by heap_get
  have hnone : X.base.get? (hp.objs.size + 1) = none := by
    cases z : X.base.get? (hp.objs.size + 1) with
    | none => rfl
    | some o => exact absurd (Heap.lt_size (I1.bk _ _ z)) (Nat.not_lt.mpr (Nat.le_succ _))
  have hkb : ∀ b o, X.base.get? b = some o → ((hp.push (PySem.W.kdv_tup [u])).push (PySem.HandSPX.excO C hp.objs.size)).get? b = some o := fun b o q => kk b o (I1.bk b o q)
  have hfs : ∀ b, hp.objs.size ≤ b → H1 b = none ∧ b ∉ frs X.stack := fun b hb => ⟨I1.hok.fresh hb, fun z => by
    rcases List.mem_cons.mp (I1.stkSub b z) with z | z
    · rw [z] at hb
      exact absurd (Nat.lt_of_lt_of_le I1.lt hb) (Nat.lt_irrefl _)
    · exact I1.nofs hb z⟩
  have hsz1 : hp.objs.size ≤ ((hp.push (PySem.W.kdv_tup [u])).push (PySem.HandSPX.excO C hp.objs.size)).objs.size := by
    exact Nat.le_trans hsz (Nat.le_of_lt (Heap.lt_size hget))
  have hR := hr.make C [u] []
  refine wpAny_call (PySem.HandSPX.call_own FB hT (I1.kIn _ _ hC) (PySem.W.looks_findIn I1.kIn iC) (fun self => PySem.W.bind_fn I1.kIn self tI) (by show 1 ≤ sizeLine; decide)
    (run _ _ X.base _ g dr tk os _ _ u mb I1.mod.kin hkb I1.mod.glob hb1 hb2 (hLim.keeps kk) hget hnone hR.depth hR.units (frs X.stack) H1 _
      (fun b o q => ⟨(I1.bs b o q).2, fun z => by
        rcases List.mem_cons.mp (I1.stkSub b z) with z | z
        · rw [z] at q
          exact absurd (Nat.lt_of_lt_of_le (Heap.lt_size q) (Nat.le_trans I1.ok.bsz I1.ok.above)) (Nat.lt_irrefl _)
        · exact I1.ok.nofr q z⟩) (hfs _ hsz) (fun b hb => hfs b (Nat.le_trans hsz1 hb)) I1.bare
      (hOK _ pins σ H1 ⟨hp, g, dr, tk, os⟩ v u _ _ I1 r1 kk hsz1 hR (I1.env0.make C [u] []).frames hs) fun h' g' d' tk' dx t1 h5 H5 hb' un5 hok5 q1 k2 hdn hdx hlt he' hns' => ⟨rfl, ?_⟩))
  generalize (hp.push (PySem.W.kdv_tup [u])).push (PySem.HandSPX.excO C hp.objs.size) = hp2 at *
  generalize hp.objs.size + 1 = a at *
  have hn5 : H5 a = none := un5.free a _ hget hn (fun z => by cases z)
  have hda : dx ≠ a := fun z => by
    have e5 := un5.keep a _ hget hn (hfs a hsz).2 (fun z => by cases z)
    exact hdx a _ e5 z.symm
  have hd1 : H1 dx = none := I1.hok.fresh (Nat.le_trans hsz (Nat.le_of_lt hlt))
  have na : ∀ {b : Addr}, upd H1 a (exo a C none) b = none → b ≠ a := fun {b} n z => by
    rw [z, upd_same] at n
    cases n
  have n1 : ∀ {b : Addr}, upd H1 a (exo a C none) b = none → H1 b = none := fun {b} n => by
    rw [upd_ne (na n)] at n
    exact n
  have un : Un (frs X.stack) [] (upd H1 a (exo a C none)) (upd (upd H5 dx (exd dx [(f, v)])) a (exo a C (some dx))) hp2 h' := {
    keep := fun b o q n hb hx => k2 b o (na n) (un5.keep b o q (n1 n) hb hx)
    slot := fun b o q n hb hx => by
      obtain ⟨sl, e5⟩ := un5.slot b o q (n1 n) hb hx
      exact ⟨sl, k2 b _ (na n) e5⟩
    free := fun b o q n hx => by
      obtain ⟨o', e5⟩ := un5.there b o q hx
      rw [upd_ne (na n), upd_ne (hdx b o' e5)]
      exact un5.free b o q (n1 n) hx
    there := fun b o q hx => by
      obtain ⟨o', e5⟩ := un5.there b o q hx
      by_cases hb : b = a
      · exact ⟨_, by rw [hb]; exact he'⟩
      · exact ⟨o', k2 b o' hb e5⟩
    tups := fun b xs q => by
      have hb : b ≠ a := fun z => by rw [z, upd_same] at q; exact nomatch (show exo a C none = HO.tup xs from Option.some.inj q)
      rw [upd_ne hb] at q
      have q5 := un5.tups b xs q
      rw [upd_ne hb, upd_ne (ne_of_none q5 hdn)]
      exact q5
    frzs := fun b o v' q => by
      have hb : b ≠ a := fun z => by rw [z, upd_same] at q; exact nomatch (show exo a C none = HO.frz o v' from Option.some.inj q)
      rw [upd_ne hb] at q
      have q5 := un5.frzs b o v' q
      rw [upd_ne hb, upd_ne (ne_of_none q5 hdn)]
      exact q5
    tbls := fun b ps q => by
      have hb : b ≠ a := fun z => by rw [z, upd_same] at q; exact nomatch (show exo a C none = HO.tbl ps from Option.some.inj q)
      rw [upd_ne hb] at q
      obtain ⟨more, q5⟩ := un5.tbls b ps q
      exact ⟨more, by rw [upd_ne hb, upd_ne (ne_of_none q5 hdn)]; exact q5⟩ }
  have nA : ∀ {c : Addr} {o : HO}, H5 c = some o → c ≠ a := fun {c o} q z => by rw [z, hn5] at q; cases q
  have hok : HOk X.prog X.w (upd (upd H5 dx (exd dx [(f, v)])) a (exo a C (some dx))) h' := fun b o q => by
    by_cases hb : b = a
    · subst hb
      rw [upd_same] at q
      cases q
      exact exo_ok he'
    · rw [upd_ne hb] at q
      by_cases hd : b = dx
      · subst hd
        rw [upd_same] at q
        cases q
        exact exd_ok hns' (relO_put (fs := []) r1 fun g => True.intro)
      · rw [upd_ne hd] at q
        exact (hok5 b o q).stay (fun c v hc z => k2 c v (by
            rcases hc with hc | hc
            · rw [hc]
              exact hb
            · exact nA hc) z)
          (fun c hc => by rw [upd_ne (nA hc), upd_ne (ne_of_none hc hdn)]; exact hc) (fun c xs hc => by rw [upd_ne (nA hc), upd_ne (ne_of_none hc hdn)]; exact hc)
  have ed : upd (upd H5 dx (exd dx [(f, v)])) a (exo a C (some dx)) dx = some (exd dx [(f, v)]) := by rw [upd_ne hda, upd_same]
  refine mk_end (raises_own T.exC T.tyC) I1 hsz kk un hok rfl hb' upd_same ed hd1 ?_
  have eH : upd (L2.del (upd (upd H5 dx (exd dx [(f, v)])) a (exo a C (some dx))) a) dx (.xd [(f, v)]) = upd H5 dx (.xd [(f, v)]) := by
    funext b
    by_cases h1 : b = dx
    · rw [h1, upd_same, upd_same]
    · rw [upd_ne h1, upd_ne h1]
      by_cases h2 : b = a
      · rw [h2, del_same, hn5]
      · rw [del_ne h2, upd_ne h2, upd_ne h1]
  rw [eH]
  exact q1 dx hdn
theorem pmk_sup {X : Cx} {x f : Str} {C : Addr} {k : Nat} {e : Expr} {te : TE} {p pos : Pos} (T : SupX X.prog X.w X.K X.mg C f) (hr : Room (k + 1) X.A) (hm : X.mg x = some (.ref C)) (ha : PE X e te)
    (hg : Gl X x := by rfl) (hdb : (x == ("__debug__" : Str)) = false := by decide) (he : starEach [e] X.env = (false, eval e X.env) :: starEach [] X.env := by rfl) :
    PMk X (.Call (.Name x p) [e] [] pos) (fun σ H Q => te σ H fun v H1 => StrH H1 v ∧ ∀ d, H1 d = none → Q (.ref C) (some d) (upd H1 d (.xd [(f, v)]))) :=
  pmk_supG (OKv := fun v H Rv => StrH H v ∧ Rv H) T hr hm ha (fun A0 pins σ H s v u Rv h1 I r k _ _ _ h => strOk_of r (I.hok.kept k) h.1 h.2) hg hdb he
end Wo
end
section
set_option Elab.async false
set_option linter.all false
set_option maxRecDepth 100000
set_option maxHeartbeats 4000000
/-! Wo, part Y: try with several clauses, with or without a name; calls that let exceptions out. -/
namespace Wo
open PySem PySem.Spec PyProof.Rows L2
/-- a clause: its class, the slot of its name, its suite -/
abbrev Clause := Value × Option Nat × (Addr → Value → Option Addr → TS)
/-- behind a suite whose exception has a name, the name is gone -/
def unset (i : Nat) (D : Ends) : Ends := { nx := fun σ' H' => D.nx (σ'.set i none) H', rt := D.rt, bk := fun σ' H' => D.bk (σ'.set i none) H', ct := fun σ' H' => D.ct (σ'.set i none) H' }
/-- what the clauses wish of an exception of the body, one behind another -/
def wMix (K : PySem.W.Frag) (Wout : WX) (D : Ends) : List Clause → WX
  | [] => Wout
  | (c, none, ts) :: r => fun cls d σ H => ∃ b, PySem.W.exmOne K cls c = some b ∧ (b = true → ∀ a, H a = none → ts a cls d D σ H) ∧ (b = false → wMix K Wout D r cls d σ H)
  | (c, some i, ts) :: r => fun cls d σ H => ∃ b, PySem.W.exmOne K cls c = some b ∧ (b = true → ∀ a, H a = none → ts a cls d (unset i D) (σ.set i (some (.ref a))) H) ∧ (b = false → wMix K Wout D r cls d σ H)
inductive HdM (X : Cx) : List ExceptHandler → List Clause → Prop
  | nil : HdM X [] []
  | bare {x : Str} {c : Value} {ts : Addr → Value → Option Addr → TS} {b₀ : Stmt} {suite : List Stmt} {np pos' : Pos} {hds : List ExceptHandler} {l : List Clause} (hc : Names X x c)
      (hsu : ∀ (a : Addr) (oe : Obj) (cls : Value) (d : Option Addr) (pn : List (Addr × Obj)), Zc cls d oe → (∃ vs, oe.data = .fields vs) → PSs (X.suite a ((a, oe) :: pn)) (b₀ :: suite) (ts a cls d)) (r : HdM X hds l) :
      HdM X (.ExceptHandler (some (.Name x np)) none (b₀ :: suite) pos' :: hds) ((c, none, ts) :: l)
  | named {x n : Str} {i : Nat} {c : Value} {ts : Addr → Value → Option Addr → TS} {b₀ : Stmt} {suite : List Stmt} {np pos' : Pos} {hds : List ExceptHandler} {l : List Clause} (hc : Names X x c) (hN : X.N.Nodup) (hi : X.N[i]? = some n) (hln : X.env.kindOf n = some .local)
      (hsu : ∀ (a : Addr) (oe : Obj) (cls : Value) (d : Option Addr) (pn : List (Addr × Obj)), Zc cls d oe → (∃ vs, oe.data = .fields vs) → PSs (X.suite a ((a, oe) :: pn)) (b₀ :: suite) (ts a cls d)) (r : HdM X hds l) :
      HdM X (.ExceptHandler (some (.Name x np)) (some n) (b₀ :: suite) pos' :: hds) ((c, some i, ts) :: l)
section
variable {X : Cx} {body : List Stmt} {h₀ : ExceptHandler} {hds : List ExceptHandler} {l : List Clause} {pos : Pos} {tb : WX → TS} {Wout : WX}
theorem ps_try_mix (hs : X.stack = X.env :: X.outer) (hf : X.env.frame = some X.env.locals) (tk : Takes X Wout)
    (hb : ∀ (W : WX) (pn : List (Addr × Obj)) (xe : Value → Shared → Prop), Takes (X.tr pn xe) W → PassesOwn (model X.prog X.w) X.A X.env xe → PSs (X.tr pn xe) body (tb W))
    (hh : HdM X (h₀ :: hds) l) : PS X (.Try body (h₀ :: hds) [] [] pos) (fun D σ H => tb (wMix X.K Wout D l) D σ H) := by
  refine ⟨fun pins s σ H D I h => ?_⟩
  have ok := I.ok
  have hfr : X.A.frames = some (X.env :: X.outer) := by rw [ok.frames, hs]
  refine wpAny_Try_except ?_
  refine wpAny_mono ((hb (wMix X.K Wout D l) (X.pn ++ pins) (fun e s₁ => wpAny (model X.prog X.w) X.A (noteFrame e X.env) (fun _ s₂ => wpAny (model X.prog X.w) X.A (setFlight e none) (fun _ s₃ =>
    wpAny (model X.prog X.w) X.A (handleBy e X.env (h₀ :: hds)) (SP X pins D) X.xe s₃) X.xe s₂) X.xe s₁) (fun u s' xx => ?_) PassesOwn.looking).run [] s σ H D (I.toTry _) h) (fun f s1 hsp => ?_) (fun e s1 he => he)
  · obtain ⟨a, B, sI, pins', σ', H', cls, d, rfl, J', nb, up, sky, na, os, ag, w⟩ := xx
    have J : L2.Inv X pins σ' H' sI := J'.ofTry ok
    have sky' : Sky B (X.env :: X.outer) a (Zc cls d) X.env.locals s'.heap := by rw [← hs]; exact sky
    show wpAny (model X.prog X.w) X.A (noteFrame (.ref a) X.env) _ _ _
    refine Sky.land Zc.steady hfr hf sky' fun h3 fl3 up3 => ?_
    have J3 : L2.Inv X pins σ' H' { s' with heap := h3 } := J.landed nb fl3.1 (up.trans up3) os ag
    obtain ⟨oe3, vs3, he3, hz3, hd3⟩ := fl3.there
    have notFr : ∀ {h : Heap} {o : Obj} {vs : Array Value}, h.FunFrames B (X.env :: X.outer) → h.get? a = some o → o.data = .fields vs → a ∉ frs (X.env :: X.outer) := fun {h o vs} ff e dd hm => by
      obtain ⟨_, o', e', hnf⟩ := ff.mem hm
      rw [e] at e'
      cases e'
      exact hnf _ dd
    have nfr := notFr fl3.2.2.1 he3 hd3
    have nL : a ≠ X.env.locals := fun z => nfr (List.mem_filterMap.mpr ⟨X.env, List.mem_cons_self, by rw [hf, z]⟩)
    have nF : a ∉ X.fs := fun hm => by
      obtain ⟨e, he, q⟩ := List.mem_filterMap.mp hm
      exact nfr (List.mem_filterMap.mpr ⟨e, List.mem_cons_of_mem _ he, q⟩)
    have S3 := J3.suite he3 hd3 na nL nF
    have LT : PySem.W.Looks (model X.prog X.w) h3 (typeOf (.ref a)) cls := fun A Q E s k q => wpAny_typeOf_ref (k _ _ he3) (by rw [hz3.1]; exact q)
    have test : ∀ {x : Str} {c : Value} {np : Pos} (hc : Names X x c) {Q : Value → Shared → Prop} {E : Value → Shared → Prop}, Q c { s' with heap := h3 } → wpAny (model X.prog X.w) (X.A.mark (some (.ref a))) (eval (.Name x np) X.env) Q E { s' with heap := h3 } := fun {x c np} hc {Q E} q => by
      obtain ⟨hg, hdbg, hm | ⟨hm, hv, hnn⟩⟩ := hc
      · exact ld_glob (X := X.suite a ((a, oe3) :: (X.pn ++ pins))) S3 hg hm q hdbg
      · exact ld_blt (X := X.suite a ((a, oe3) :: (X.pn ++ pins))) S3 hg hm hv q hnn hdbg
    have go : ∀ {hds' : List ExceptHandler} {l' : List Clause}, HdM X hds' l' → wMix X.K Wout D l' cls d σ' H' →
        wpAny (model X.prog X.w) X.A (handleBy (.ref a) X.env hds') (SP X pins D) X.xe { s' with heap := h3 } := by
      intro hds' l' hk
      induction hk with
      | nil =>
        intro w
        refine wpAny_handleBy_nil ?_
        obtain ⟨k1, k2, k3, oe, vs, T, oT, ts', he, hz, hd, h1, hr⟩ := id fl3
        unfold PySem.passOn
        refine wpAny_bind (wpAny_field he hd h1 ?_)
        rw [if_neg (show ¬ ((Value.ref T == Value.none) = true) from by simp)]
        have fin : wpAny (model X.prog X.w) X.A (setFlight (.ref a) X.env.frame) (fun _ s4 => wpAny (model X.prog X.w) X.A (throw (.ref a) : Sem Flow) (SP X pins D) X.xe s4) X.xe { s' with heap := h3 } := by
          rw [hf]
          refine HandSPX.setFlight_upZ fl3 fun h4 hh4 up4 => wpAny_throw (tk _ _ ?_)
          exact ⟨a, B, sI, pins, σ', H', cls, d, rfl, J, nb, (up.trans up3).trans up4, .inr (.inr (by rw [hs]; exact hh4)), na, os, ag, w⟩
        first
          | exact wpAny_bind (wpAny_pure (wpAny_bind fin))
          | exact wpAny_bind fin
      | @bare x c ts b₀ suite np pos' hds2 l2 hc hsu r ih =>
        intro w
        obtain ⟨b, hb1, hyes, hno⟩ := w
        refine wpAny_handleBy_cons (codeAny_handlers_test ?_) (by intro q; cases q)
        have LM := PySem.W.exm_one (M := model X.prog X.w) (J3.kIn) LT hb1
        refine test hc (LM.here ?_)
        cases b with
        | true =>
          refine codeAny_handlers_suite ?_
          refine HandSPX.lands_againZ fl3 fun h4 fl4 up4 => ?_
          have J4 : L2.Inv X pins σ' H' { s' with heap := h4 } := J.landed nb fl4.1 ((up.trans up3).trans up4) os ag
          obtain ⟨oe4, vs4, he4, hz4, hd4⟩ := fl4.there
          have S4 := J4.suite he4 hd4 na nL nF
          refine wpAny_mono ((hsu a oe4 cls d (X.pn ++ pins) hz4 ⟨_, hd4⟩).run [] _ _ H' _ S4 (hyes rfl a na)) (fun f s6 hsp => ?_) (fun _ _ z => False.elim z)
          cases f with
          | next =>
            obtain ⟨σ6, H6, S6, q6⟩ := hsp
            exact ⟨_, _, S6.unsuite ok, q6⟩
          | brk =>
            obtain ⟨σ6, H6, S6, q6⟩ := hsp
            exact ⟨_, _, S6.unsuite ok, q6⟩
          | cont =>
            obtain ⟨σ6, H6, S6, q6⟩ := hsp
            exact ⟨_, _, S6.unsuite ok, q6⟩
          | ret u =>
            obtain ⟨v6, σ6, H6, S6, r6, q6⟩ := hsp
            exact ⟨_, _, _, S6.unsuite ok, r6, q6⟩
        | false =>
          show wpAny _ X.A (handleBy (.ref a) X.env hds2) _ _ _
          exact ih (hno rfl)
      | @named x n i c ts b₀ suite np pos' hds2 l2 hc hN hi hln hsu r ih =>
        intro w
        obtain ⟨b, hb1, hyes, hno⟩ := w
        refine wpAny_handleBy_cons (codeAny_handlers_test ?_) (by intro q; cases q)
        have LM := PySem.W.exm_one (M := model X.prog X.w) (J3.kIn) LT hb1
        refine test hc (LM.here ?_)
        cases b with
        | true =>
          refine codeAny_handlers_suite_as ?_
          refine HandSPX.lands_againZ fl3 fun h4 fl4 up4 => ?_
          have J4 : L2.Inv X pins σ' H' { s' with heap := h4 } := J.landed nb fl4.1 ((up.trans up3).trans up4) os ag
          obtain ⟨oe4, vs4, he4, hz4, hd4⟩ := fl4.there
          have S4 := J4.suite he4 hd4 na nL nF
          refine store_ok (X := X.suite a ((a, oe4) :: (X.pn ++ pins))) (v := .ref a) S4 hN hi (.inl hln) rfl (fun s5 S5 => ?_) (.inr hln)
          refine wpAny_mono ((hsu a oe4 cls d (X.pn ++ pins) hz4 ⟨_, hd4⟩).run [] s5 _ H' _ S5 (hyes rfl a na)) (fun f s6 hsp => ?_) (fun _ _ z => False.elim z)
          have end_ : ∀ {σ6 : L2.St} {H6 : Hp} {Q : Shared → Prop}, L2.Inv (X.suite a ((a, oe4) :: (X.pn ++ pins))) [] σ6 H6 s6 → (∀ s7, L2.Inv X pins (σ6.set i none) H6 s7 → Q s7) →
              wpAny (model X.prog X.w) X.A (do bindName X.env n .none; unbindBehindTheSuite X.env n pos') (fun _ s7 => Q s7) X.xe s6 := fun {σ6 H6 Q} S6 hq => gone_ok (S6.unsuite ok) hN hi hln hq
          cases f with
          | next =>
            obtain ⟨σ6, H6, S6, q6⟩ := hsp
            exact end_ S6 fun s7 J7 => ⟨_, _, J7, q6⟩
          | brk =>
            obtain ⟨σ6, H6, S6, q6⟩ := hsp
            exact end_ S6 fun s7 J7 => ⟨_, _, J7, q6⟩
          | cont =>
            obtain ⟨σ6, H6, S6, q6⟩ := hsp
            exact end_ S6 fun s7 J7 => ⟨_, _, J7, q6⟩
          | ret u =>
            obtain ⟨v6, σ6, H6, S6, r6, q6⟩ := hsp
            exact end_ S6 fun s7 J7 => ⟨_, _, _, J7, r6, q6⟩
        | false =>
          show wpAny _ X.A (handleBy (.ref a) X.env hds2) _ _ _
          exact ih (hno rfl)
    exact go hh w
  · cases f with
    | next =>
      obtain ⟨σ', H', J', q⟩ := hsp
      exact wpAny_execs_nil ⟨σ', H', J'.ofTry ok, q⟩
    | brk =>
      obtain ⟨σ', H', J', q⟩ := hsp
      exact ⟨σ', H', J'.ofTry ok, q⟩
    | cont =>
      obtain ⟨σ', H', J', q⟩ := hsp
      exact ⟨σ', H', J'.ofTry ok, q⟩
    | ret u =>
      obtain ⟨v, σ', H', J', r, q⟩ := hsp
      exact ⟨v, σ', H', J'.ofTry ok, r, q⟩
end
end Wo
end
section
set_option Elab.async false
set_option linter.all false
set_option maxRecDepth 100000
set_option maxHeartbeats 4000000
/-! Wo, part Z: what is raised: calls, constructors, own operators whose exceptions are wished for at the caller's slots. -/
namespace Wo
open PySem PySem.Spec PyProof.Rows L2
/-- the wish at the slots σ -/
def atW (W : WX) (σ : L2.St) : XK := fun cls d H => W cls d σ H
/-- a def's own wish about exceptions -/
def ofE (E : XK) : WX := fun cls d _ H => E cls d H
section
variable {P : Program} {w : World} {K : PySem.W.Frag} {mg : Str → Option Value} {base : Heap} {N : List Str} {qual : Str} {scope : Scope} {f : Addr} {cd : Value} {A : Around} {outer : List Env} {s : Shared} {H : Hp} {E : XK}
theorem takesE : Takes (cxOf (CXW P w) P w K mg base N qual scope f cd A outer s H E) (ofE E) := takes_of rfl rfl rfl rfl
end
section
variable {X : Cx} {k j : Nat} {f : Addr} {sp : Sp} {W : WX} {x : Str} {p pos : Pos} {e : Expr} {es : List Expr} {t : TA}
/-- f(e, ..): what it raises is wished for by W -/
def tCallW (sp : Sp) (W : WX) (t : TA) : TE := fun σ H Q => t σ H fun vs H1 => sp vs H1 Q (atW W σ)
theorem run_W {pins : List (Addr × Obj)} {σ : L2.St} {H : Hp} {s : Shared} {Q : VK} {us : List Value} {vs : List V} (F : FnR X.prog X.w X.K X.mg X.base (CXW X.prog X.w) k f sp) (hr : Room k X.A) (tk : Takes X W)
    (I : L2.Inv X pins σ H s) (r : Vals vs us) (h : sp vs H Q (atW W σ)) : wpAny (model X.prog X.w) X.A (call (.ref f) us) (EP X pins σ Q) X.xe s := by
  refine wpAny_call (codeAny_mono (F X.A X.stack s H us vs Q (atW W σ) hr I.env0 r h) fun r s' hq => ?_)
  cases r with
  | error e => exact tk e s' (XE.of_call I (fun cls d H' z => z) hq)
  | ok fl =>
    cases fl with
    | ret u => exact I.after hq
    | next => exact False.elim hq
    | brk => exact False.elim hq
    | cont => exact False.elim hq
theorem pcW (c : Cal X.prog X.w X.K X.mg X.base k x sp) (hr : Room j X.A) (tk : Takes X W) (ha : PA X (e :: es) t) (hk : k ≤ j := by decide) (hg : Gl X x := by rfl) (hdb : (x == ("__debug__" : Str)) = false := by decide)
    (he : starEach (e :: es) X.env = (false, eval e X.env) :: starEach es X.env := by rfl) (hpl : (backTo pos (starEach es X.env)).any (·.1) = false := by rfl) : PE X (.Call (.Name x p) (e :: es) [] pos) (tCallW sp W t) := by
  obtain ⟨f, hm, kp, F⟩ := c
  refine ⟨fun pins s σ H Q I h => ?_⟩
  refine wpAny_Call_Name_kw (ld_glob I hg hm ?_ hdb)
  refine PySem.W.callWith_K (h₀ := X.base) I.ok.mod.kin kp (thn (ha.run pos pins s σ H _ I h) fun us s1 ⟨vs, H1, I1, r, q⟩ => ⟨I1.kIn, ?_⟩) he hpl
  exact run_W F (hr.mono hk) tk I1 r q
/-- raise C(e), C with super().__init__(str(a)); self.f = a -/
theorem ps_supW {g : Str} {C : Addr} {te : TE} (hc : X.calm = true) (tk : Takes X W) (T : SupX X.prog X.w X.K X.mg C g) (hr : Room (j + 1) X.A) (hm : X.mg x = some (.ref C)) (ha : PE X e te) (hg : Gl X x := by rfl) (hdb : (x == ("__debug__" : Str)) = false := by decide)
    (he : starEach [e] X.env = (false, eval e X.env) :: starEach [] X.env := by rfl) {pos' : Pos} : PS X (.Raise (some (.Call (.Name x p) [e] [] pos)) none pos') (fun _ σ H => te σ H fun v H1 => StrH H1 v ∧ ∀ d, H1 d = none → W (.ref C) (some d) σ (upd H1 d (.xd [(g, v)]))) :=
  ps_raise hc tk (pmk_sup T hr hm ha hg hdb he)
end
/-! ### own operators of a class with two slots -/
section
variable {X : Cx} {k j : Nat} {g C : Addr} {sp : Sp} {W : WX} {pos : Pos} {a b : Expr} {ta tb : TE}
/-- x op y, both instances of the class at C, by its own def -/
def tOpW (C : Addr) (sp : Sp) (W : WX) (ta tb : TE) : TE := fun σ H Q => ta σ H fun x H1 => tb σ H1 fun y H2 => (∃ u v, Ob2 C H2 x u v) ∧ (∃ u v, Ob2 C H2 y u v) ∧ sp [x, y] H2 Q (atW W σ)
theorem pe_opW {op : Operator} {m : Str} (F : FnR X.prog X.w X.K X.mg X.base (CXW X.prog X.w) k g sp) (O : OwnM X.K C m g) (hop : PySem.dunder op.info.2 = m) (hr : Room j X.A) (tk : Takes X W) (ha : PE X a ta) (hb : PE X b tb) (hk : k ≤ j := by decide) :
    PE X (.BinOp a op b pos) (tOpW C sp W ta tb) := by
  refine ⟨fun pins s σ H Q I h => ?_⟩
  refine wpAny_BinOp (binT ha hb I h fun v u s2 x y H2 I2 rx ry q => ?_)
  obtain ⟨⟨u1, v1, o1⟩, ⟨u2, v2, o2⟩, q⟩ := q
  obtain ⟨p1, d1, rfl, s1⟩ := o1
  obtain ⟨p2, d2, rfl, s2'⟩ := o2
  cases (show v = Value.ref p1 from rx)
  cases (show u = Value.ref p2 from ry)
  obtain ⟨sl, od, _, J, _⟩ := SlX.slt_inst I2 s1
  obtain ⟨sl', od', _, J', _⟩ := SlX.slt_inst I2 s2'
  obtain ⟨m', hF⟩ := I2.fr
  refine PySem.W.binop_K (op := op) hF I2.ok.mod.kin J J'.type O.sf (by rw [hop]; exact O.at_) O.fn ?_
  refine wpAny_mono (run_W (us := [.ref p1, .ref p2]) (vs := [.ref p1, .ref p2]) F (hr.mono hk) tk I2 (.cons rfl (.cons rfl .nil)) q) (fun w s' z => ?_) fun _ _ x => x
  obtain ⟨z', H', I', rz, qz⟩ := z
  exact SlX.cmpback rz ⟨z', H', I', rz, qz⟩
end
end Wo
end
section
set_option Elab.async false
set_option linter.all false
set_option maxRecDepth 100000
set_option maxHeartbeats 4000000
/-! Wo, part W: own exception classes with super().__init__, from facts of the top. -/
namespace Wo
open PySem PySem.Spec PySem.W PySem.Calls PyProof.Rows L2
/-- the positions in such an __init__ -/
def zOf : List Stmt → SupPos
  | [.Expr (.Call (.Attribute (.Call (.Name _ p0) _ _ p1) _ p2) (.Call (.Name _ p3) (.Name _ p4 :: _) _ p5 :: _) _ p6) p7, .Assign (.Attribute (.Name _ q0) _ q1 :: _) (.Name _ q2) q3] => ⟨p0, p1, p2, p3, p4, p5, p6, p7, q0, q1, q2, q3⟩
  | _ => ⟨⟨0,0,0,0⟩, ⟨0,0,0,0⟩, ⟨0,0,0,0⟩, ⟨0,0,0,0⟩, ⟨0,0,0,0⟩, ⟨0,0,0,0⟩, ⟨0,0,0,0⟩, ⟨0,0,0,0⟩, ⟨0,0,0,0⟩, ⟨0,0,0,0⟩, ⟨0,0,0,0⟩, ⟨0,0,0,0⟩⟩
/-- what a built-in exception type brings -/
structure Bas (B newId i : String) (bm : List Value) : Prop where
  FB : ExcBaseFacts B newId i bm
  KF : KxsFacts B i
  SF : StoreFacts B bm "object.__setattr__" "object"
abbrev bmIndex : List Value := [.type "IndexError", .type "LookupError", .type "Exception", .type "BaseException", .type "object"]
abbrev bmVal : List Value := [.type "ValueError", .type "Exception", .type "BaseException", .type "object"]
abbrev bmOver : List Value := [.type "OverflowError", .type "ArithmeticError", .type "Exception", .type "BaseException", .type "object"]
abbrev bmArith : List Value := [.type "ArithmeticError", .type "Exception", .type "BaseException", .type "object"]
theorem bas_ArithmeticError : Bas "ArithmeticError" "ArithmeticError.__new__" "ArithmeticError.__init__" bmArith := ⟨F.excBase_ArithmeticError, kxs_ArithmeticError, F.store_ArithmeticError⟩
theorem bas_IndexError : Bas "IndexError" "IndexError.__new__" "IndexError.__init__" bmIndex := ⟨F.excBase_IndexError, kxs_IndexError, F.store_IndexError⟩
theorem bas_ValueError : Bas "ValueError" "ValueError.__new__" "ValueError.__init__" bmVal := ⟨F.excBase_ValueError, kxs_ValueError, F.store_ValueError⟩
theorem bas_OverflowError : Bas "OverflowError" "OverflowError.__new__" "OverflowError.__init__" bmOver := ⟨F.excBase_OverflowError, kxs_OverflowError, F.store_OverflowError⟩
/-- the def at a, the addresses of its closure left out -/
def fnE (K : Frag) (a : Addr) : He.FnW := match K.lookup a with
  | some ⟨_, _, .func fd, _⟩ => some (fd.name, fd.qualname, fd.params, fd.body, fd.scope, fd.globals, fd.closure.map fun p => (p.1, 0), fd.builtins)
  | _ => none
structure SupD where
  cls : Str
  qual : Str
  params : Arguments
  body : List Stmt
  scope : Scope
def SupD.val (d : SupD) : He.FnW := some ("__init__", d.qual, d.params, .stmts d.body, d.scope, mainGlobals, [("__class__", 0)], builtinsNs)
def bFileV (v : Option Value) (file : Str) : Bool := match v with
  | some (.str y _) => decide (y = file)
  | _ => false
def bFile (K : Frag) (cda : Addr) (file : Str) : Bool := match K.lookup cda with
  | some ⟨_, _, .fields vs, _⟩ => bFileV vs[2]? file
  | _ => false
def bCellC (K : Frag) (cc C : Addr) : Bool := match K.lookup cc with
  | some ⟨_, _, .cell (some (.ref D)), _⟩ => decide (D = C)
  | _ => false
def bCodC (K : Frag) (C : Addr) (qual file : Str) (cv : Value) (cl : List (Str × Addr)) : Bool := match cv, cl with
  | .ref cda, (_, cc) :: _ => codeIn K (.ref cda) qual && (bFile K cda file && bCellC K cc C)
  | _, _ => false
theorem bCodC_ok {K : Frag} {C : Addr} {qual file : Str} {cv : Value} {cl : List (Str × Addr)} (c : bCodC K C qual file cv cl = true) (h : cl.map (fun p => (p.1, (0 : Addr))) = [(("__class__" : Str), (0 : Addr))]) :
    ∃ cda cc, cv = .ref cda ∧ cl = [(("__class__" : Str), cc)] ∧ codeIn K (.ref cda) qual = true ∧ bFile K cda file = true ∧ bCellC K cc C = true := by
  unfold bCodC at c
  split at c
  · rename_i cda nn cc rest
    obtain ⟨d1, d2⟩ := He.ba c
    obtain ⟨d2, d3⟩ := He.ba d2
    obtain ⟨h7a, h7b⟩ := List.cons.inj h
    have hr : rest = [] := List.map_eq_nil_iff.mp h7b
    have hn : nn = ("__class__" : Str) := congrArg Prod.fst h7a
    subst hr hn
    exact ⟨_, _, rfl, rfl, d1, d2, d3⟩
  · cases c
def bInitE (K : Frag) (fI C : Addr) (qual file : Str) : Bool := match K.lookup fI with
  | some ⟨_, _, .func fd, _⟩ => decide (fd.defaults = .none) && bCodC K C qual file fd.code fd.closure
  | _ => false
def bExcC (K : Frag) (C : Addr) (bm : List Value) (newId : String) : Bool := match K.lookup C with
  | some ⟨.type "type", _, .cls cd, sl⟩ => (match cd.mro, sl.toList with
    | .ref D :: bm', [_, _, _, _, some (.builtin n), _] => decide (D = C) && (decide (bm' = bm) && (decide (n = newId) && (!cd.hasDel && cd.hasDict)))
    | _, _ => false)
  | _ => false
theorem bExcC_ok {K : Frag} {C : Addr} {bm : List Value} {newId : String} (q : bExcC K C bm newId = true) : ∃ nm qn N bs sn sub ab col dd k0 k1 k2 k3 k5, K.lookup C = some (excClassObj nm qn C N bs bm true sn sub ab col dd k0 k1 k2 k3 k5 newId) := by
  unfold bExcC at q
  split at q
  · rename_i dd cd sl ho
    split at q
    · rename_i C' bm' k0 k1 k2 k3 n k5 hm hs
      obtain ⟨c1, q⟩ := He.ba q
      obtain ⟨c2, q⟩ := He.ba q
      obtain ⟨c3, q⟩ := He.ba q
      obtain ⟨c4, c5⟩ := He.ba q
      have e1 := of_decide_eq_true c1
      have e2 := of_decide_eq_true c2
      have e3 := of_decide_eq_true c3
      subst e1 e2 e3
      obtain ⟨nm, bs, mro, ns, qn, hd, sn, sub, ab, col, del⟩ := cd
      dsimp only at hm c4 c5
      have c4' : del = false := by simpa using c4
      subst hm c4' c5
      have hsl : sl = #[k0, k1, k2, k3, some (.builtin n), k5] := by
        obtain ⟨l⟩ := sl
        simp only at hs
        rw [hs]
      subst hsl
      exact ⟨nm, qn, ns, bs, sn, sub, ab, col, dd, k0, k1, k2, k3, k5, ho⟩
    · cases q
  · cases q
/-- a class x over the built-in type B, its __init__ a def of the text, the field f -/
def bmOf (pre : Frag → List Addr) (bm : List Value) (K : Frag) : List Value := (pre K).map Value.ref ++ bm
def fSup (x f qual file : Str) (B newId i : String) (pre : Frag → List Addr) (bm : List Value) (K : Frag) : Bool :=
  bInitE K (mA x "__init__" K) (gA x K) qual file && (bExcC K (gA x K) (bmOf pre bm K) newId && (He.eqO (findIn K (.ref (gA x K)) "__init__") (some (some (.ref (mA x "__init__" K)))) &&
  (decide (typeIn K (.ref (mA x "__init__" K)) = some (.type "function")) && (He.eqO (nsIn K cStatics "thirdparty.any") (some none) && (He.eqO (alongIn K "__init__" (bmOf pre bm K)) (some (some (.builtin i))) &&
  (decide (subIn K (.ref (gA x K)) (.type B) = some true) && (decide (mroIn K (gA x K) (.ref (gA x K)) = some true) && (decide (mroIn K (gA x K) (.type "object") = some true) && (He.eqO (findIn K (.ref (gA x K)) f) (some none) &&
  (He.eqO (findIn K (.ref (gA x K)) "__setattr__") (some (some (.builtin "object.__setattr__"))) && (decide (subIn K (.ref (gA x K)) (.type "BaseException") = some true) && (decide (typeIn K (.ref (gA x K)) = some (.type "type")) && keepIn K (.ref (gA x K))))))))))))))
section
variable {P : Program} {w : World} {K : Frag} {mg : Str → Option Value} {x f a sl qual file : Str} {B newId i : String} {bm : List Value} {params : Arguments} {body : List Stmt} {scope : Scope} {ar : Arg}
theorem bmOf_has {pre : Frag → List Addr} {T : String} : (bmOf pre bm K).contains (.type T) = bm.contains (.type T) := by
  unfold bmOf
  induction pre K with
  | nil => rfl
  | cons a l ih =>
    rw [List.map_cons, List.cons_append, List.contains_cons, ih]
    rfl
theorem bmOf_pass {pre : Frag → List Addr} {e : Addr} {s : Str} (h : refuseLoop (.ref e) s bm = pure ()) : refuseLoop (.ref e) s (bmOf pre bm K) = pure () := by
  unfold bmOf
  induction pre K with
  | nil => exact h
  | cons a l ih =>
    rw [List.map_cons, List.cons_append]
    exact (refuseLoop_ref _ _ _ _).trans ih
theorem fSup_ok {pre : Frag → List Addr} (b : Bas B newId i bm) (c : fSup x f qual file B newId i pre bm K = true) (e : fnE K (mA x "__init__" K) = (some ("__init__", qual, params, FuncBody.stmts body, scope, mainGlobals, [("__class__", 0)], builtinsNs) : He.FnW))
    (hfile : ((P.main.file : Str) == file) = true) (htop : (P.main.scope.names.lookup ("super" : Str)).isSome = false) (hsuper : mg "super" = none) (hstr : mg "str" = none)
    (hb : body = supBody (zOf body) sl a f) (hp1 : (params.posonlyargs ++ params.args).head? = some ar) (har : ar.arg = sl)
    (hbind : ∀ (bd : List Stmt) (kV doc pm : Value) (an : Option Addr) (cdv ct : Value) (cc : Addr) (u1 u2 : Value), bindArgs (ksFn "__init__" qual params bd scope .none kV doc pm an cdv ct cc) ⟨[u1, u2], []⟩ = pure [(sl, u1), (a, u2)])
    (hsla : (a == sl) = false) (hda : (a == ("__debug__" : Str)) = false) (hds : (sl == ("__debug__" : Str)) = false)
    (hk : scope.kind = .function) (hks : scope.names.lookup ("super" : Str) = some .globalImplicit) (hkt : scope.names.lookup ("str" : Str) = some .globalImplicit) (hkc : scope.names.lookup ("__class__" : Str) = some .free) (hkS : scope.names.lookup sl = some .local) (hkA : scope.names.lookup a = some .local)
    (hcells : ∀ x ∈ scope.names, x.2 ≠ .cell) (hco : scope.isCoroutine = false) (hgen : scope.isGenerator = false)
    (hev : ∀ (L fI : Addr) (cdv : Value) (cc : Addr), ∃ pl : Sem Bool, eval (.Call (.Attribute (.Call (.Name "super" (zOf body).p0) [] [] (zOf body).p1) "__init__" (zOf body).p2) [.Call (.Name "str" (zOf body).p3) [.Name a (zOf body).p4] [] (zOf body).p5] [] (zOf body).p6) (ksEnv qual scope L fI cdv cc) = (do
      let ov ← attributeBase (.Call (.Name "super" (zOf body).p0) [] [] (zOf body).p1) "__init__" (ksEnv qual scope L fI cdv cc) (eval (.Call (.Name "super" (zOf body).p0) [] [] (zOf body).p1) (ksEnv qual scope L fI cdv cc))
      standAt (zOf body).p2.atName
      let (f, first) ← holding [ov] (getMethod ov "__init__" pl)
      callWith (zOf body).p6 f first (backTo (zOf body).p6 (starEach [.Call (.Name "str" (zOf body).p3) [.Name a (zOf body).p4] [] (zOf body).p5] (ksEnv qual scope L fI cdv cc))) []))
    (hevS : ∀ (L fI : Addr) (cdv : Value) (cc : Addr), eval (.Call (.Name "str" (zOf body).p3) [.Name a (zOf body).p4] [] (zOf body).p5) (ksEnv qual scope L fI cdv cc) = (do callWith (zOf body).p5 (← eval (.Name "str" (zOf body).p3) (ksEnv qual scope L fI cdv cc)) [] (backTo (zOf body).p5 (starEach [.Name a (zOf body).p4] (ksEnv qual scope L fI cdv cc))) (backToKw (zOf body).p5 (keywordEach [] (ksEnv qual scope L fI cdv cc)))))
    (hint : ∀ (L fI : Addr) (cdv : Value) (cc : Addr), interactive (ksEnv qual scope L fI cdv cc) = false)
    (hsw1 : ∀ (L fI : Addr) (cdv : Value) (cc : Addr), swapsWith (.Call (.Attribute (.Call (.Name "super" (zOf body).p0) [] [] (zOf body).p1) "__init__" (zOf body).p2) [.Call (.Name "str" (zOf body).p3) [.Name a (zOf body).p4] [] (zOf body).p5] [] (zOf body).p6) none (zOf body).p7.line (ksEnv qual scope L fI cdv cc) = pure false)
    (hsw2 : ∀ (L fI : Addr) (cdv : Value) (cc : Addr), swapsWith (.Name a (zOf body).q2) (some (.Attribute (.Name sl (zOf body).q0) f (zOf body).q1)) (zOf body).q3.line (ksEnv qual scope L fI cdv cc) = pure false) : SupX P w K mg (gA x K) f := by
  obtain ⟨FB, KF, SF⟩ := b
  obtain ⟨c1, c⟩ := He.ba c
  obtain ⟨c2, c⟩ := He.ba c
  obtain ⟨c3, c⟩ := He.ba c
  obtain ⟨c4, c⟩ := He.ba c
  obtain ⟨c5, c⟩ := He.ba c
  obtain ⟨c6, c⟩ := He.ba c
  obtain ⟨c7, c⟩ := He.ba c
  obtain ⟨c8, c⟩ := He.ba c
  obtain ⟨c9, c⟩ := He.ba c
  obtain ⟨c10, c⟩ := He.ba c
  obtain ⟨c11, c⟩ := He.ba c
  obtain ⟨c12, c⟩ := He.ba c
  obtain ⟨c13, c14⟩ := He.ba c
  generalize mA x "__init__" K = fI at *
  generalize gA x K = C at *
  obtain ⟨nm, qn, N, bs, sn, sub, ab, col, dd, k0, k1, k2, k3, k5, hC⟩ := bExcC_ok c2
  refine ⟨⟨fI, B, i, newId, bmOf pre bm K, bm, FB, (fun T => bmOf_has), He.eqO_ok c3, of_decide_eq_true c4, ⟨nm, qn, N, bs, sn, sub, ab, col, dd, k0, k1, k2, k3, k5, hC⟩, ?_⟩, of_decide_eq_true c12, of_decide_eq_true c13, c14⟩
  unfold fnE at e
  unfold bInitE at c1
  cases q : K.lookup fI with
  | none => rw [q] at c1; cases c1
  | some o =>
    obtain ⟨oc, od, dt, osl⟩ := o
    rw [q] at c1 e
    cases dt with
    | func fd =>
      obtain ⟨n1, n2, n3, n4, n5, n6, n7, n8, n9, n10, n11, n12, n13, n14, n15⟩ := fd
      have e2 : (some (n1, n2, n3, n4, n5, n6, n7.map (fun p => (p.1, 0)), n15) : He.FnW) = (some (("__init__" : Str), qual, params, FuncBody.stmts body, scope, mainGlobals, [(("__class__" : Str), (0 : Addr))], builtinsNs) : He.FnW) := e
      simp only [Option.some.injEq, Prod.mk.injEq] at e2
      obtain ⟨h1, h2, h3, h4, h5, h6, h7, h8⟩ := e2
      subst h1 h2 h3 h4 h5 h6 h8
      have c1' : (decide (n8 = .none) && bCodC K C n2 file n13 n7) = true := c1
      obtain ⟨cd, c1'⟩ := He.ba c1'
      have cd' : n8 = .none := of_decide_eq_true cd
      subst cd'
      obtain ⟨cda, cc, rfl, rfl, d1, d2, d3⟩ := bCodC_ok (K := K) (C := C) (qual := n2) (file := file) (cv := n13) (cl := n7) c1' h7
      · skip
        unfold bFile at d2
        split at d2
        · rename_i ccl cdd vs ccs qa
          unfold bFileV at d2
          split at d2
          · rename_i y tf qb
            have d2' := of_decide_eq_true d2
            subst d2'
            unfold bCellC at d3
            split at d3
            · rename_i cl cld D csl qc
              have d3' := of_decide_eq_true d3
              subst d3'
              rw [hb] at q
              intro A R hp h1 g d tk os e t0 v mb X hk1 G Gb hmb nl he hne hroom hun fs H1 Rv hpn hen hfr hbare hstrOk hq
              have X1 : K.In h1 := X.keeps hk1
              exact sup_init KF FB X hk1 G Gb hmb nl he hne q d1 qa qb hfile qc hC hsuper hstr (looks_opaque X1 (He.eqO_ok c5)) (He.eqO_ok c6) (of_decide_eq_true c7) (of_decide_eq_true c8)
                ((refuseLoop_ref _ _ _ _).trans (bmOf_pass (SF.passes _))) (of_decide_eq_true c9) (He.eqO_ok c10) (He.eqO_ok c11) hp1 har (hbind _ _ _ _ _ _ _ _) hroom hun hsla hk hks hkt hkc hkS hkA hcells hco hgen htop hpn hen hfr hbare hstrOk
                (fun L => hev L _ _ _) (fun L => hevS L _ _ _) hda hds (fun L => hint L _ _ _) (fun L => hsw1 L _ _ _) (fun L => hsw2 L _ _ _) hq
            · cases d3
          · cases d2
        · cases d2
    | _ => cases c1
end
/-! the hook with the own exceptions' __init__ -/
structure EX where
  ad : Pa
  val : He.FnW
abbrev AlY : Type := AlX × List He.FnW
def obsY (fs : List (Frag → Bool)) (ds : List DefX) (es : List EX) (K : Frag) : AlY := (obsX fs ds K, es.map fun e => fnE K (e.ad K))
def valY (ds : List DefX) (es : List EX) : AlY := (valX ds, es.map EX.val)
def SaysY (fs : List (Frag → Bool)) (ds : List DefX) (es : List EX) (K : Frag) : Prop := obsY fs ds es K = valY ds es
def obsYG (n : Nat) (fs : List (Frag → Bool)) (ds : List DefX) (es : List EX) (g : Addr → Option Obj) : AlY := obsY fs ds es (He.frG g (He.asD g n ++ [cStatics]))
def hookY (n : Nat) (fs : List (Frag → Bool)) (ds : List DefX) (es : List EX) : Hook where
  α := AlY
  obs := fun s => obsYG n fs ds es s.heap.get?
  val := fun _ => valY ds es
  says := fun _ h => ∃ K : Frag, K.In h ∧ SaysY fs ds es K
  of := fun _ _ e => ⟨_, He.frG_in, e⟩
  keeps := fun _ _ _ ⟨K, hK, c⟩ k => ⟨K, Frag.In.keeps hK k, c⟩
theorem obsYG_eq {n : Nat} {fs : List (Frag → Bool)} {ds : List DefX} {es : List EX} {g : Addr → Option Obj} {s : Shared} (h : ∀ a, g a = s.heap.get? a) : obsYG n fs ds es g = (hookY n fs ds es).obs s := by
  have e : g = s.heap.get? := funext h
  rw [e] <;> rfl
section
variable {fs : List (Frag → Bool)} {ds : List DefX} {es : List EX} {K : Frag}
theorem SaysY.x (c : SaysY fs ds es K) : SaysX fs ds K := congrArg (fun z : AlY => z.1) c
theorem SaysY.ex (c : SaysY fs ds es K) (i : Nat) {d : EX} (h : es[i]? = some d := by rfl) : fnE K (d.ad K) = d.val := by
  have e : es.map (fun e => fnE K (e.ad K)) = es.map EX.val := congrArg (fun z : AlY => z.2) c
  have e2 : (es.map fun e => fnE K (e.ad K))[i]? = (es.map EX.val)[i]? := by rw [e]
  rw [List.getElem?_map, List.getElem?_map, h] at e2
  exact Option.some.inj e2
end
/-! an own exception class without __init__ -/
structure OwnX (K : Frag) (C : Addr) : Prop where
  ex : ∃ B newId i bm, ExcBaseFacts B newId i bm ∧ excIn K C bm newId = true
  exC : subIn K (.ref C) (.type "BaseException") = some true
  tyC : typeIn K (.ref C) = some (.type "type")
  kC : keepIn K (.ref C) = true
abbrev bmValue : List Value := [.type "ValueError", .type "Exception", .type "BaseException", .type "object"]
def fOwnV (x : Str) (K : Frag) : Bool := excIn K (gA x K) bmValue "ValueError.__new__" && (decide (subIn K (.ref (gA x K)) (.type "BaseException") = some true) && (decide (typeIn K (.ref (gA x K)) = some (.type "type")) && keepIn K (.ref (gA x K))))
theorem fOwnV_ok {K : Frag} {x : Str} (c : fOwnV x K = true) : OwnX K (gA x K) := by
  obtain ⟨c1, c⟩ := He.ba c
  obtain ⟨c2, c⟩ := He.ba c
  obtain ⟨c3, c4⟩ := He.ba c
  exact ⟨⟨_, _, _, _, F.excBase_ValueError, c1⟩, of_decide_eq_true c2, of_decide_eq_true c3, c4⟩
/-- is an exception of the class cls caught by the clause c -/
def fExm (cls c : Frag → Value) (b : Bool) (K : Frag) : Bool := decide (exmOne K (cls K) (c K) = some b)
theorem fExm_ok {K : Frag} {cls c : Frag → Value} {b : Bool} (h : fExm cls c b K = true) : exmOne K (cls K) (c K) = some b := of_decide_eq_true h
def fXf (x : Str) (K : Frag) : Bool := xfB K (gA x K)
theorem fXf_ok {K : Frag} {x : Str} (c : fXf x K = true) : XfC K (gA x K) := xfB_ok c
section
variable {X : Cx} {W : WX} {x m : Str} {C : Addr} {p p2 pos pos' : Pos} {j : Nat}
/-- raise C('m'), C own, without __init__ -/
theorem ps_ownW (hc : X.calm = true) (tk : Takes X W) (T : OwnX X.K C) (hm : X.mg x = some (.ref C)) (hg : Gl X x := by rfl) (hdb : (x == ("__debug__" : Str)) = false := by decide) :
    PS X (.Raise (some (.Call (.Name x p) [.Constant (.str m) j p2] [] pos)) none pos') (fun _ σ H => W (.ref C) none σ H) := by
  obtain ⟨B, newId, i, bm, FB, q⟩ := T.ex
  exact ps_raise hc tk (pmk_own FB q hm T.kC (raises_own T.exC T.tyC) hg hdb)
end
end Wo
end
section
set_option Elab.async false
set_option linter.all false
set_option maxRecDepth 100000
set_option maxHeartbeats 4000000
/-! Wo, part V: own methods and unary operators of a slotted class; != by the own ==. -/
namespace Wo
open PySem PySem.Spec PyProof.Rows L2 PySem.Calls
section
variable {X : Cx} {k j : Nat} {g C : Addr} {sp : Sp} {W : WX} {pos apos : Pos} {o a e : Expr} {es : List Expr} {ta : TE} {t : TA} {m : Str}
/-- -e, e an instance of the class at C -/
def tUnW (C : Addr) (sp : Sp) (W : WX) (ta : TE) : TE := fun σ H Q => ta σ H fun x H1 => (∃ u v, Ob2 C H1 x u v) ∧ sp [x] H1 Q (atW W σ)
theorem pe_negW (F : FnR X.prog X.w X.K X.mg X.base (CXW X.prog X.w) k g sp) (O : OwnM X.K C "__neg__" g) (hr : Room j X.A) (tk : Takes X W) (ha : PE X a ta) (hk : k ≤ j := by decide) :
    PE X (.UnaryOp .USub a pos) (tUnW C sp W ta) := by
  refine ⟨fun pins s σ H Q I h => ?_⟩
  refine wpAny_UnaryOp (thn (ha.run pins s σ H _ I h) fun u s1 ⟨x, H1, I1, rx, o1, q⟩ => ?_)
  obtain ⟨u1, v1, o1⟩ := o1
  obtain ⟨p1, d1, rfl, s1'⟩ := o1
  cases (show u = Value.ref p1 from rx)
  obtain ⟨sl, od, _, J, _⟩ := SlX.slt_inst I1 s1'
  obtain ⟨m', hF⟩ := I1.fr
  exact PySem.W.ksp_neg hF I1.ok.mod.kin J O.at_ O.fn (run_W (us := [.ref p1]) (vs := [.ref p1]) F (hr.mono hk) tk I1 (.cons rfl .nil) q)
/-- o.m(e, ..), m a def of the class at C -/
def tMethW (C : Addr) (sp : Sp) (W : WX) (ta : TE) (t : TA) : TE := fun σ H Q => ta σ H fun x H1 => (∃ u v, Ob2 C H1 x u v) ∧ t σ H1 fun ws H2 => sp (x :: ws) H2 Q (atW W σ)
theorem pe_methW {pl : Sem Bool} (F : FnR X.prog X.w X.K X.mg X.base (CXW X.prog X.w) k g sp) (O : OwnM X.K C m g) (c : SlX.SCls X.K C) (hr : Room j X.A) (tk : Takes X W) (he : PE X o ta) (ha : PA X (e :: es) t) (hk : k ≤ j := by decide)
    (hst : starEach (e :: es) X.env = (false, eval e X.env) :: starEach es X.env := by rfl) (hpl : (backTo pos (starEach es X.env)).any (·.1) = false := by rfl)
    (ht : eval (.Call (.Attribute o m apos) (e :: es) [] pos) X.env = (do
      let ov ← eval o X.env
      standAt apos.atName
      let (f, first) ← holding [ov] (getMethod ov m pl)
      callWith pos f first (backTo pos (starEach (e :: es) X.env)) (backToKw pos (keywordEach [] X.env))) := by rfl) :
    PE X (.Call (.Attribute o m apos) (e :: es) [] pos) (tMethW C sp W ta t) := by
  refine ⟨fun pins s σ H Q I h => ?_⟩
  refine PySem.W.methodCall_KW (pl := pl) (thn (he.run pins s σ H _ I h) fun u s1 ⟨x, H1, I1, rx, o1, q⟩ => ?_) ht
  obtain ⟨u1, v1, o1⟩ := o1
  obtain ⟨p1, d1, rfl, s1'⟩ := o1
  obtain rfl : u = Value.ref p1 := rx
  refine SlX.getmethsl_ok I1 s1' c ⟨O.at_, O.fn, O.kp⟩ ?_
  refine PySem.W.callWith_K (first := [.ref p1]) (h₀ := X.base) I.ok.mod.kin O.kp (thn (ha.run pos pins s1 σ H1 _ I1 q) fun us s2 ⟨ws, H2, I2, r, q2⟩ => ⟨I2.kIn, ?_⟩) hst hpl
  exact run_W (us := .ref p1 :: us) (vs := .ref p1 :: ws) F (hr.mono hk) tk I2 (.cons rfl r) q2
/-- abs(e) of such an instance, nothing is raised -/
def rOwn1 (C : Addr) (sp : Sp) : List V → Hp → VK → Prop := fun vs H Q => ∃ x u v, vs = [x] ∧ Ob2 C H x u v ∧ sp [x] H Q E0
theorem call_absOwn (F : FnR X.prog X.w X.K X.mg X.base (CXW X.prog X.w) k g sp) (O : OwnM X.K C "__abs__" g) (hr : Room (k + 1) X.A) : CallR X (.builtin "abs") (rOwn1 C sp) := by
  intro pins s σ H xs us Q I r h
  obtain ⟨x, u1, v1, rfl, o1, q⟩ := h
  obtain ⟨p1, d1, rfl, s1'⟩ := o1
  obtain ⟨u, rfl, ru⟩ := r.one
  cases (show u = Value.ref p1 from ru)
  obtain ⟨sl, od, _, J, _⟩ := SlX.slt_inst I s1'
  refine Calls.call_function_entry kind_abs plain_abs entry_abs (args_abs _) ?_
  unfold Builtin.«abs»
  refine wpAny_bind (m := oneArg "abs" _) (wpAny_pure ?_)
  refine wpAny_bind (m := callSpecial? (.ref p1) (Str.ofString "__abs__")) (PySem.W.special_fn I.kIn J O.at_ (beq_iff_eq.mp O.fn) (wpAny_mono (wpAny_call (SlX.run_at (us := [.ref p1]) (ws := [.ref p1]) F (Room.in1 hr) I.env0.in1 passF I (.cons rfl .nil) q)) (fun w s' z => ?_) fun _ _ x => x))
  exact wpAny_pure ⟨_, rfl, z⟩
/-- bool(e) -/
theorem call_boolOwn (F : FnR X.prog X.w X.K X.mg X.base (CXW X.prog X.w) k g sp) (O : OwnM X.K C "__bool__" g) (hr : Room (k + 2) X.A) :
    CallR X (.type "bool") (fun vs H Q => ∃ x u v, vs = [x] ∧ Ob2 C H x u v ∧ sp [x] H (fun z H' => ∃ b, z = .bl b ∧ Q z H') E0) := by
  intro pins s σ H xs us Q I r h
  obtain ⟨x, u1, v1, rfl, o1, q⟩ := h
  obtain ⟨p1, d1, rfl, s1'⟩ := o1
  obtain ⟨u, rfl, ru⟩ := r.one
  cases (show u = Value.ref p1 from ru)
  obtain ⟨sl, od, _, J, _⟩ := SlX.slt_inst I s1'
  have hr2 : Room k X.A.in1.in1 := (show Room (k + 1) X.A.in1 from Room.in1 hr).in1
  refine callType_codes (T := "bool") (Bi := Builtin.«object.__init__») (Q₁ := fun r s₁ => ∃ b, r = Value.bool b ∧ EP X pins σ Q r s₁) PySem.F.called_bool (PySem.F.typeCall_bool_1 _) PySem.F.entry_object_init ?_ ?_
  · refine codeAny_of_tree ?_
    show wpAny _ X.A.in1.in1 (do checkBuiltinCall "bool.__new__" ⟨[.type "bool", .ref p1], []⟩; again (.builtin "bool.__new__" ⟨[.type "bool", .ref p1], []⟩)) _ _ s
    refine wpAny_bind (wpAny_of_eq (PySem.F.newCall_bool_1 _) (wpAny_pure ⟨plainId_quiet (by decide +kernel) _, codeAny_builtin PySem.F.entry_bool_new ?_⟩))
    rw [Around.under_plainId (by decide +kernel) _]
    unfold Builtin.«bool.__new__»
    refine wpAny_bind (wpAny_of_eq (a := true) (by kernel_rfl) ?_)
    refine PySem.W.KFB.if_not rfl ?_
    refine wpAny_bind (wpAny_of_eq (a := true) PySem.F.conv_sub_bool ?_)
    refine PySem.W.KFB.if_not rfl ?_
    refine wpAny_bind (wpAny_of_eq (a := [.ref p1]) rfl ?_)
    obtain ⟨m', hF⟩ := I.fr
    refine wpAny_bind (PySem.W.truthy_K hF I.ok.mod.kin J O.at_ O.fn (wpAny_mono (wpAny_call (SlX.run_at (us := [.ref p1]) (ws := [.ref p1]) F hr2 I.env0.in1.in1 passF I (.cons rfl .nil) q)) (fun w s' z => ?_) fun _ _ x => x))
    obtain ⟨z', H', I', rz, b, ez, qz⟩ := z
    subst ez
    cases (show w = Value.bool b from rz)
    exact wpAny_pure ⟨b, rfl, .bl b, H', I', (show L2.RelV (.bl b) (Value.bool b) from rfl), qz⟩
  · rintro obj s₁ ⟨b, rfl, hq⟩
    exact ⟨PySem.typeIs_bool _ _, PySem.F.args_object_init_2 _ _, object_init_meets PySem.F.called_bool.init.lookup PySem.F.called_bool.made (by decide) X.prog X.w X.A.in1 _ s₁ ⟨PySem.typeIs_bool _ _, rfl, hq⟩⟩
end
/-! ### != by the own == -/
section
open PySem.W
variable {prog : Program} {w : World} {A : Around} {E : Value → Shared → Prop} {s : Shared} {K : Frag} {x y C f : Addr} {ox od oy : Obj} {name : Str} {id B : String}
theorem ifBound_blt {args : List Value} {Q : Option Value → Shared → Prop} {od : Option Obj} {M : Model} (X : K.In s.heap) (I : InstAt s.heap x ox C od) (hs : findIn K (.ref C) name = some (some (.builtin id))) (S : Slot B name id)
    (h : wpAny M A (call (.builtin id) (.ref x :: args)) (fun v => Q (some v)) E s) : wpAny M A (callSpecialIfBound? (.ref x) name args) Q E s := by
  simp only [callSpecialIfBound?, bindSpecialIfBound?]
  refine wpAny_holding (wpAny_bind (wpAny_bind (wpAny_bind (I.type.here ((looks_findIn X hs).here ?_)))))
  simp only [S.bind]
  refine wpAny_bind (wpAny_askSetting (wpAny_ite ?_))
  have fin : wpAny M A (call (.builtin id) ([.ref x] ++ args) >>= fun v => pure (some v)) Q E s := wpAny_bind (wpAny_mono h (fun v s' h' => wpAny_pure h') fun _ _ h' => h')
  split
  · exact wpAny_bind (wpAny_pure (wpAny_pure (by exact fin)))
  · exact wpAny_tryCatch (wpAny_bind (wpAny_pure (wpAny_pure (by exact fin))))
theorem ne_own {Q : Value → Shared → Prop} {od' : Option Obj} (hu : A.units + 1 < cLine) (X : K.In s.heap) (I : InstAt s.heap x ox C (some od)) (I' : InstAt s.heap y oy C od') (he : findIn K (.ref C) "__eq__" = some (some (.ref f))) (hf : isFn K (.ref f) = true)
    (hne : findIn K (.ref C) "__ne__" = some (some (.builtin "object.__ne__"))) (hob : mroIn K C (.type "object") = some true)
    (h : wpAny (model prog w) A.in1 (call (.ref f) [.ref x, .ref y]) (fun v s' => ∃ b, v = .bool b ∧ Q (.bool (!b)) s') E s) : wpAny (model prog w) A (richCompare .NotEq (.ref x) (.ref y)) Q E s := by
  have FB := F.cmp_object
  obtain ⟨hp, g, d, t, os⟩ := s
  have sub : Looks (model prog w) hp (isInstance (.ref x) (.type "object")) true := I.type.andThen (looks_mroIn X hob)
  unfold richCompare
  simp only [oneThing_ref]
  refine wpAny_holding (wpAny_bind (wpAny_cRoomFor (Nat.lt_of_succ_lt hu) ?_))
  rw [cmpInfo_NotEq]
  dsimp only
  refine wpAny_bind (I.type.here (wpAny_bind (I'.type.here ?_)))
  rw [show (Value.ref C != Value.ref C) = false from by simp]
  simp only [Bool.false_eq_true, if_false]
  refine wpAny_bind (wpAny_pure ?_)
  simp only [Bool.false_eq_true, if_false]
  refine wpAny_bind (wpAny_mono (Q := fun r s' => ∃ b, r = some (Value.bool (!b)) ∧ Q (.bool (!b)) s') ?_ (fun r s' z => ?_) fun _ _ e => e)
  · simp only [tryCompare]
    refine wpAny_bind (ifBound_blt X I hne FB.ne (wpAny_call (codeAny_call_builtin FB.ne.plain F.cmpEntry_ne (check_slot F.cmpKind_ne F.cmpSplit_ne sub (F.cmpArgs_ne _ _) ?_))))
    unfold Builtin.«object.__ne__»
    repeat (first
      | with_reducible refine wpAny_cRoomFor hu ?_
      | (refine wpAny_bind (m := callSpecialIfBound? (.ref x) (Str.ofString "__eq__") [.ref y])
          (ifBound_K X I he hf (wpAny_mono h (fun r s' hr => by
            obtain ⟨b, rfl, hq⟩ := hr
            repeat (first | exact ⟨b, rfl, hq⟩ | exact ⟨b, rfl, wpAny_pure ⟨b, rfl, hq⟩⟩ | exact wpAny_pure ⟨b, rfl, wpAny_pure ⟨b, rfl, hq⟩⟩ | (refine wpAny_bind (m := truthy (.bool _)) (wpAny_truthy_bool ?_)) | wp_step)) fun _ _ e => e)))
      | wp_step)
  · obtain ⟨b, rfl, hq⟩ := z
    exact wpAny_pure hq
end
section
variable {X : Cx} {n : Nat} {C g : Addr}
theorem rcB_ratN (F : FnR X.prog X.w X.K X.mg X.base (CXW X.prog X.w) n g (sp_eqQ C)) (O : OwnM X.K C "__eq__" g) (hne : PySem.W.findIn X.K (.ref C) "__ne__" = some (some (.builtin "object.__ne__"))) (hob : PySem.W.mroIn X.K C (.type "object") = some true) :
    RcB X (n + 1) .NotEq true (RQ C) := by
  intro A pins s σ H x y u v a b sb I rx ry h1 h2
  obtain ⟨p, dx, rfl, s1⟩ := id h1
  obtain ⟨q, dy, rfl, s2⟩ := id h2
  cases rx
  cases ry
  obtain ⟨sl, od, _, J, _⟩ := SlX.slt_inst I s1
  obtain ⟨sl', od', _, J', _⟩ := SlX.slt_inst I s2
  have e0 : Env0 X.prog X.w X.K X.mg X.base A X.stack s H := by
    have e := I.env0
    exact ⟨by rw [sb.fr]; exact e.frames, e.mod, e.bs, e.bsz, e.funs, e.frf, e.hok, e.bare⟩
  refine ne_own (by have := sb.room.in1.units0; exact this) I.kIn J J' O.at_ O.fn hne hob ?_
  refine wpAny_mono (wpAny_call (SlX.run_at (A := A.in1) (us := [.ref p, .ref q]) (ws := [.ref p, .ref q]) (Q := fun v H' => v = .bl (decide (a = b)) ∧ H' = H) (E := E0) F sb.room.in1 e0.in1 passF I (.cons rfl (.cons rfl .nil)) ⟨_, _, rfl, a, b, h1, h2, rfl, rfl⟩)) (fun w s' z => ?_) fun _ _ x => x
  obtain ⟨z', H', I', rz, ez, eH⟩ := z
  subst ez eH
  cases (show w = Value.bool _ from rz)
  exact ⟨decide (a = b), rfl, _, rfl, by by_cases h : a = b <;> simp [h], _, I', Same.refl _⟩
theorem nc_rat {P : Program} {w : World} {K : PySem.W.Frag} {mg : Str → Option Value} {base : Heap} {m : Nat} (F : FnR P w K mg base (CXW P w) m g (sp_eqQ C)) (O : OwnM K C "__eq__" g) (hne : PySem.W.findIn K (.ref C) "__ne__" = some (some (.builtin "object.__ne__"))) (hob : PySem.W.mroIn K C (.type "object") = some true) (h : m + 1 ≤ n) :
    NeC P w K mg base n (RQ C) := fun X l => by
  obtain ⟨rfl, rfl, rfl, rfl, rfl⟩ := l
  exact (rcB_ratN F O hne hob).mono h
end
/-- the class x has the built-in b as m -/
def fKitB (x : Str) (t : String) (b : Bool) (K : PySem.W.Frag) : Bool := decide (PySem.W.kitOne K (.ref (gA x K)) (.type t) = some b)
theorem fKitB_ok {x : Str} {t : String} {b : Bool} {K : PySem.W.Frag} (c : fKitB x t b K = true) : PySem.W.kitOne K (.ref (gA x K)) (.type t) = some b := of_decide_eq_true c
def fFindB (x m : Str) (b : String) (K : PySem.W.Frag) : Bool := He.eqO (PySem.W.findIn K (.ref (gA x K)) m) (some (some (.builtin b)))
theorem fFindB_ok {K : PySem.W.Frag} {x m : Str} {b : String} (c : fFindB x m b K = true) : PySem.W.findIn K (.ref (gA x K)) m = some (some (.builtin b)) := He.eqO_ok c
end Wo
end
section
set_option Elab.async false
set_option linter.all false
set_option maxRecDepth 100000
set_option maxHeartbeats 4000000
/-! Wo, part U: one operator of several readings; a list that grows while its items are used; loops over ranges; last items; comparison of names. -/
namespace Wo
open PySem PySem.Spec PyProof.Rows L2
theorem op_or {X : Cx} {f : Value → Value → Sem Value} {r1 r2 : R2} (h1 : OpR X f r1) (h2 : OpR X f r2) : OpR X f (fun x y H Q => r1 x y H Q ∨ r2 x y H Q) := by
  intro pins s σ H x y v u Q I rx ry hq
  rcases hq with hq | hq
  · exact h1 pins s σ H x y v u Q I rx ry hq
  · exact h2 pins s σ H x y v u Q I rx ry hq
section
variable {A B : Prop} {a b : Str}
theorem ite_sY (q : A) : if decide (a = a) = true then A else B := by
  rw [if_pos (by simp)]
  exact q
theorem ite_sN (h : a ≠ b) (q : B) : if decide (a = b) = true then A else B := by
  rw [if_neg (by simp [h])]
  exact q
theorem ite_n' {A B : Prop} {b : Bool} (h : b = false) (q : B) : if b = true then A else B := by rw [if_neg (by rw [h]; decide)]; exact q
theorem ite_y' {A B : Prop} {b : Bool} (h : b = true) (q : A) : if b = true then A else B := by rw [if_pos h]; exact q
end
section
variable {α : Type} {K : PySem.W.Frag} {H H' : Hp} {p a C : Addr} {xs ys : List V} {v : V} {q : Rat} {Q : VK} {R : Rl α}
theorem Same.hids (e : Same H H') : Same (Wo.hid p H) (Wo.hid p H') := fun b o q => by
  obtain ⟨n, q⟩ := hid_some q
  rw [hid_ne n]
  exact e _ _ q
theorem Same.unhid : Same (Wo.hid p H) H := fun b o q => (hid_some q).2
theorem hid_at {o : HO} (h : H a = some o) (hp : H p = some (.lst xs)) (n : o ≠ .lst xs) : hid p H a = some o := by
  rw [hid_ne (fun z => n (by rw [z, hp] at h; exact (Option.some.inj h).symm))]
  exact h
theorem rq_hid (h : RQ C H v q) (hp : H p = some (.lst xs)) : RQ C (hid p H) v q := by
  obtain ⟨a, dx, rfl, h | ⟨h1, h2⟩⟩ := h
  · exact absurd h.2 (by simp)
  · exact ⟨a, dx, rfl, .inr ⟨hid_at h1 hp (fun z => by unfold SlX.SlO at z; cases z), hid_at h2 hp (fun z => by cases z)⟩⟩
theorem sqT_hid (h : SqT K H a ys) (hp : H p = some (.lst xs)) : SqT K (hid p H) a ys := by
  rcases h with h | h
  · exact .inl (h.imp (fun h => hid_at h hp (fun z => by cases z)) fun ⟨o, h⟩ => ⟨o, hid_at h hp (fun z => by cases z)⟩)
  · exact .inr h
theorem hid_upd_same {o : HO} : hid p (upd H p o) = hid p H := by
  funext b
  by_cases z : b = p
  · rw [z, hid_same, hid_same]
  · rw [hid_ne z, hid_ne z, upd_ne z]
theorem Same.grow (e : Same H H') (h : H p = none) {o : HO} : Same H (upd H' p o) := fun b u q => by
  rw [upd_ne (ne_of_none q h)]
  exact e _ _ q
theorem atI_neg1 {xs : List α} {v : α} (h : xs[xs.length - 1]? = some v) : atI xs (-1) = some v := by
  have hj : xs.length - 1 < xs.length := (List.getElem?_eq_some_iff.mp h).1
  have e : ixN xs.length (-1) = some (xs.length - 1) := by
    unfold ixN
    rw [if_neg (by omega), if_pos (by omega)]
    exact congrArg some (by omega)
  unfold atI
  rw [e]
  exact h
theorem rd_ixLast {as : List α} {a : α} (h : RL K R H v as) (hi : as[as.length - 1]? = some a) (k : ∀ w, R H w a → Q w H) : rIxL K v (.int (-1)) H Q := by
  obtain ⟨p, vs, rfl, hs, hr, hz⟩ := h
  obtain ⟨w, hw, rw⟩ := hr.getR hi
  rw [← hr.len] at hw
  exact ⟨p, vs, _, w, rfl, rfl, hs, atI_neg1 hw, k w rw⟩
theorem rd_append {n : Nat} (h : H p = some (.lst xs)) (hz : xs.length ≤ n) (q : Q .non (upd H p (.lst (xs ++ [v])))) (hn : n < sizeLine := by decide) : rAppend (.ref p) [v] H Q := ⟨p, xs, v, rfl, rfl, h, Nat.lt_of_le_of_lt hz hn, q⟩
end
theorem rd_bm {K : PySem.W.Frag} {T : String} {r : V → List V → Hp → VK → Prop} {to : TE} {t : TA} {σ : L2.St} {H : Hp} {Q : VK} (q : to σ H fun x H1 => tyV K T x H1 ∧ t σ H1 fun xs H2 => r x xs H2 Q) : tBM K T r to t σ H Q := q
theorem RAll.strs {H : Hp} : ∀ {ns : List Str}, RAll RS H (ns.map V.str) ns
  | [] => .nil
  | _ :: _ => .cons rfl RAll.strs
theorem rd_dnew {σ : L2.St} {H : Hp} {Q : VK} (q : ∀ p, H p = none → Q (.ref p) (upd H p (.dK []))) : tDNewK σ H Q := q
/-- a loop over a range, whatever happens to the heap -/
theorem forN {n : Nat} {H : Hp} {g : TG} {tb : TS} {D : Ends} {σ : L2.St} (I : Nat → L2.St → Hp → Prop) (h0 : I 0 σ H)
    (hb : ∀ i σ' H', i < n → I i σ' H' → g (.int (i : Nat)) σ' H' fun σ2 H2 => tb { D with nx := I (i + 1), ct := I (i + 1), bk := D.nx } σ2 H2)
    (hd : ∀ σ' H', I n σ' H' → D.nx σ' H') : ForK (Itr 0 n) H g tb D σ := by
  refine ⟨fun i m σ' H' => m = n - i ∧ i ≤ n ∧ I i σ' H', ⟨n, rfl, Nat.zero_le _, h0⟩, ?_⟩
  rintro i m σ' H' ⟨rfl, hi, hI⟩
  by_cases hlt : i < n
  · refine .inr ⟨hlt, I (i + 1), fun σ2 H2 q => ⟨n - (i + 1), by omega, rfl, hlt, q⟩, fun x H'' hy => ?_⟩
    obtain ⟨rfl, rfl⟩ := hy
    have h := hb i σ' H'' hlt hI
    rw [show (0 : Int) + (i : Nat) = (i : Nat) by omega]
    exact h
  · have e : i = n := by omega
    subst e
    exact .inl ⟨Nat.le_refl _, hd σ' H' hI⟩
theorem forRN {j : Int} {H : Hp} {g : TG} {tb : TS} {D : Ends} {σ : L2.St} (h1 : 0 ≤ j) (h2 : j < 2 ^ 62) (q : ForK (Itr 0 j.toNat) H g tb D σ) : ∃ i : Int, [V.int j] = [.int i] ∧ -(2 ^ 62) ≤ i ∧ i < 2 ^ 62 ∧ ForK (Itr 0 i.toNat) H g tb D σ := ⟨j, rfl, by omega, h2, q⟩
section
variable {K : PySem.W.Frag} {H H' : Hp} {v : V} {t : Value}
theorem TyX.up (e : Same H H') (h : TyX K H v t) : TyX K H' v t := by
  cases h with
  | base h =>
    refine .base ?_
    cases h with
    | non => exact .non
    | bl x => exact .bl x
    | int x => exact .int x
    | str x => exact .str x
    | flt x => exact .flt x
    | lst h => exact .lst (e _ _ h)
    | frz h => exact .frz (e _ _ h)
    | tup h => exact .tup (e _ _ h)
    | dK h => exact .dK (e _ _ h)
    | dT h => exact .dT (e _ _ h)
    | ins h c a n t m => exact .ins (e _ _ h) c a n t m
  | byt b => exact .byt b
  | set h => exact .set (e _ _ h)
  | kList h c => exact .kList h c
  | kTuple h c => exact .kTuple h c
  | kDict h c => exact .kDict h c
  | fTuple h => exact .fTuple (e _ _ h)
  | fDict h => exact .fDict (e _ _ h)
/-- a value of a type -/
def RTy (K : PySem.W.Frag) : Rl Value := fun H v t => HasTy K H v t
instance : Up (RTy K) := ⟨fun e h => h.imp (TyX.up e) fun ⟨a, C, dx, vs, h1, h2, h3, h4⟩ => ⟨a, C, dx, vs, h1, h2, Slt.up e h3, h4⟩⟩
end
end Wo
end
section
set_option Elab.async false
set_option linter.all false
set_option maxRecDepth 100000
set_option maxHeartbeats 4000000
/-! Wo, part T: texts and numbers of thousands of digits; str of an own instance; classmethods. -/
namespace Wo
open PySem PySem.Spec PySem.W PySem.Calls PyProof.Rows L2 PySem.NumText
/-- no digit limit has been set -/
def fDig (K : Frag) : Bool := He.eqO (nsIn K cStatics "sys.int_max_str_digits") (some none)
structure Dig (K : Frag) : Prop where
  n : nsIn K cStatics "sys.int_max_str_digits" = some none
theorem fDig_ok {K : Frag} (c : fDig K = true) : Dig K := ⟨He.eqO_ok c⟩
theorem Dig.no {K : Frag} {h : Heap} (D : Dig K) (X : K.In h) (L : h.NoLimit) : h.NoDigits := by
  obtain ⟨mc, G, _⟩ := L
  refine ⟨mc, G, ?_⟩
  obtain ⟨o, es, ep, ho, hd, _, hf⟩ := G
  have e := D.n
  unfold nsIn at e
  split at e
  · rename_i c d es' n' sl q
    have := X _ _ q
    rw [ho] at this
    cases this
    cases hd
    split at e
    · cases e
    · rename_i he
      rw [← hf]
      unfold nsFind findBy
      rw [← Array.find?_toList, he]
      rfl
  · cases e
theorem fStr_ok {K : Frag} {h : Heap} {mg : Str → Option Value} (X : K.In h) (G : h.Ns mainGlobals mg) {x z : Str} (c : fStr x z K = true) : ∃ t, mg x = some (.str z t) := by
  unfold fStr at c
  split at c
  · rename_i y t e
    have e2 := of_decide_eq_true c
    subst e2
    exact ⟨t, mg_of X G e⟩
  · cases c
/-- a global that holds a text -/
theorem pe_gS {X : Cx} {x z : Str} {pos : Pos} (h : ∃ t, X.mg x = some (.str z t)) (hg : Gl X x := by rfl) (hd : (x == ("__debug__" : Str)) = false := by decide) : PE X (.Name x pos) (tC (.str z)) := by
  obtain ⟨t, h⟩ := h
  exact pe_glob hg h (show RelV (.str z) (.str z t) from ⟨t, rfl⟩) hd
section
theorem text_limit {M : Model} {A : Around} {E : Value → Shared → Prop} {s : Shared} {Q : Nat → Shared → Prop} (hn : s.heap.NoDigits) (h : Q 4300 s) : wpAny M A Builtin.intMaxStrDigits Q E s := by
  obtain ⟨mc, hns, hnone⟩ := hn
  unfold Builtin.intMaxStrDigits
  refine wpAny_bind (wpAny_nsGet hns ?_)
  rw [hnone]
  exact wpAny_pure h
theorem wp_textL {M : Model} {A : Around} {E : Value → Shared → Prop} {s : Shared} {Q : Value → Shared → Prop} {v : Value} {text : List Nat} {n : Int} (hd : s.heap.NoDigits)
    (hs : ¬ (text.takeWhile (· != 0)).length ≤ 640) (hr : (int_private% "readNumeral") 4300 10 (text.takeWhile (· != 0)) = (int_private% "Numeral.value") n)
    (ha : ((text.takeWhile (· != 0)).length == text.length) = true) (h : Q (.int n s.toks) { s with toks := s.toks + 1 }) :
    wpAny M A ((int_private% "intFromText") v text 10) Q E s := by
  obtain ⟨hp, g, d, tk, os⟩ := s
  repeat (any_goals (first
    | assumption
    | (with_reducible refine wpAny_ite_false (decide_eq_false hs) ?_)
    | (with_reducible refine wpAny_ite_true (decide_eq_true ha) ?_)
    | (with_reducible refine text_limit hd ?_)
    | wp_step))
  all_goals (try rw [hr])
  all_goals (try dsimp only)
  repeat (any_goals (first
    | assumption
    | (with_reducible refine wpAny_ite_true (decide_eq_true ha) ?_)
    | wp_step))
end
section
structure HidT (p : Prop) : Prop where
  out : p
theorem meets_textL {x : PySem.Str} {u : Tok} {n : Int} (hx : x.length ≤ sizeLine) (hn : PySem.intText? x = some n) :
    Meets (Builtin.«int.__new__» ⟨[.type "int", .str x u], []⟩) (fun _ R s => s.heap.NoDigits ∧ R (.ok (.ret (.int n s.toks))) { s with toks := s.toks + 1 }) := by
  by_cases hs : (numSeenOf x).length ≤ 640
  · intro prog w A R s h
    have hr : (int_private% "readNumeral") 0 10 (numSeenOf x) = (int_private% "Numeral.value") n ∧ ((numSeenOf x).length == (numTextOf x).length) = true := by
      rcases read0 x hs with ⟨m, h1, h2, h3⟩ | ⟨h1, _⟩
      · rw [hn] at h1
        injection h1 with h1
        subst h1
        exact ⟨h3, h2⟩
      · rw [hn] at h1
        cases h1
    have hk := HidT.mk (And.intro hs hr)
    obtain ⟨hd, h⟩ := h
    obtain ⟨hp, g, d, tk, os⟩ := s
    have f1 := F.conv_sub_int
    have f2 := F.madeHere_int
    have f3 := KIN.str_int
    have f4 := KIN.str_idx
    have f5 := KIN.str_trunc
    have f6 : typeOf (.str x u) = pure (.type "str") := rfl
    clear hs hr hx hn
    refine wpAny_mono (Q := fun fin s' => ∃ v, fin = .done (.ret v) ∧ R (.ok (.ret v)) s') ?_ (fun fin s' h' => by obtain ⟨v, rfl, hv⟩ := h'; exact hv) fun _ _ x => x
    repeat (any_goals (first
      | assumption
      | ((with_reducible show wpAny _ _ ((int_private% "intFromText") _ _ _) _ _ _); refine KIN.wp_text hk.out.1 hk.out.2.1 hk.out.2.2 ?_)
      | wp_step))
    all_goals first | exact ⟨_, rfl, h⟩ | skip
  · intro prog w A R s h
    have hr : (int_private% "readNumeral") 4300 10 (numSeenOf x) = (int_private% "Numeral.value") n ∧ ((numSeenOf x).length == (numTextOf x).length) = true := by
      rcases read4300 x hx with ⟨m, h1, h2, h3⟩ | ⟨h1, _⟩
      · rw [hn] at h1
        injection h1 with h1
        subst h1
        exact ⟨h3, h2⟩
      · rw [hn] at h1
        cases h1
    have hk := HidT.mk (And.intro hs hr)
    obtain ⟨hd, h⟩ := h
    have hD := HidT.mk hd
    obtain ⟨hp, g, d, tk, os⟩ := s
    have f1 := F.conv_sub_int
    have f2 := F.madeHere_int
    have f3 := KIN.str_int
    have f4 := KIN.str_idx
    have f5 := KIN.str_trunc
    have f6 : typeOf (.str x u) = pure (.type "str") := rfl
    clear hs hr hx hn hd
    refine wpAny_mono (Q := fun fin s' => ∃ v, fin = .done (.ret v) ∧ R (.ok (.ret v)) s') ?_ (fun fin s' h' => by obtain ⟨v, rfl, hv⟩ := h'; exact hv) fun _ _ x => x
    repeat (any_goals (first
      | assumption
      | ((with_reducible show wpAny _ _ ((int_private% "intFromText") _ _ _) _ _ _); refine wp_textL hD.out hk.out.1 hk.out.2.1 hk.out.2.2 ?_)
      | wp_step))
    all_goals first | exact ⟨_, rfl, h⟩ | skip
end
section
variable {X : Cx}
/-- int(text), up to 4300 digits -/
theorem call_int_strL (D : Dig X.K) : CallR X (.type "int") (fun xs H Q => ∃ a n, xs = [.str a] ∧ PySem.intText? a = some n ∧ a.length ≤ sizeLine ∧ Q (.int n) H) := by
  intro pins s σ H xs us Q I rs h
  obtain ⟨a, n, rfl, hn, hl, h⟩ := h
  cases rs with
  | cons r1 rs =>
    cases rs
    obtain ⟨t, rfl⟩ := r1
    exact call_int_1 (meets_textL hl hn) ⟨D.no I.kIn (I.mod.nolimit.keeps I.bk), ⟨rfl, .int n, H, I.tok _, ⟨_, rfl⟩, h⟩⟩
/-- {x}: an int below 10 ** 4300, as a text -/
def tFmtL (te : TE) : TE := fun σ H Q => te σ H fun x H1 => ∃ i : Int, x = .int i ∧ i.natAbs < 10 ^ 4300 ∧ Q (.str (toString i)) H1
theorem pe_fmtL (D : Dig X.K) {k : Nat} (hr : Room k X.A) {e : Expr} {te : TE} {pos : Pos} (he : PE X e te) : PE X (.FormattedValue e (-1) none pos) (tFmtL te) := by
  refine ⟨fun pins s σ H Q I h => ?_⟩
  refine wpAny_FormattedValue_plain (thn (he.run pins s σ H _ I h) fun v s1 hv => ?_)
  obtain ⟨x, H1, I1, r1, i, rfl, hz, q⟩ := hv
  obtain ⟨t, rfl⟩ := r1
  exact formatField_int hr.hd (D.no I1.kIn (I1.mod.nolimit.keeps I1.bk)) (fun _ => ⟨.str (toString i), H1, I1.tok _, ⟨_, rfl⟩, q⟩) fun hge => absurd hz (Nat.not_lt.mpr hge)
variable {k : Nat} {g C : Addr} {sp : Sp}
/-- str(e), e an instance of a class with its own __str__ -/
theorem call_strOwn (F : FnR X.prog X.w X.K X.mg X.base (CXW X.prog X.w) k g sp) (O : OwnM X.K C "__str__" g) (hr : Room (k + 2) X.A) :
    CallR X (.type "str") (fun vs H Q => ∃ x u v, vs = [x] ∧ Ob2 C H x u v ∧ sp [x] H (fun z H' => ∃ y, z = .str y ∧ Q z H') E0) := by
  intro pins s σ H xs us Q I r h
  obtain ⟨x, u1, v1, rfl, o1, q⟩ := h
  obtain ⟨p1, d1, rfl, s1'⟩ := o1
  obtain ⟨u, rfl, ru⟩ := r.one
  cases (show u = Value.ref p1 from ru)
  obtain ⟨sl, od, _, J, _⟩ := SlX.slt_inst I s1'
  have hr2 : Room k X.A.in1.in1 := (show Room (k + 1) X.A.in1 from Room.in1 hr).in1
  refine PySem.W.kso_call (by have := hr2.un; omega) I.kIn J O.at_ O.fn (wpAny_mono (wpAny_call (SlX.run_at (us := [.ref p1]) (ws := [.ref p1]) F hr2 I.env0.in1.in1 passF I (.cons rfl .nil) q)) (fun w s' z => ?_) fun _ _ x => x)
  obtain ⟨z', H', I', rz, y, ez, qz⟩ := z
  subst ez
  obtain ⟨t, rfl⟩ := (show ∃ t, w = Value.str y t from rz)
  exact ⟨.str y, H', I', ⟨t, rfl⟩, qz⟩
end
/-! ### classmethods, and the class behind a local name -/
section
open ClX
variable {X : Cx} {k j : Nat} {g p C : Addr} {sp : Sp} {W : WX} {m : Str} {apos pos : Pos} {o e : Expr} {es : List Expr} {ta : TE} {t : TA} {mc : Value}
def tCMethW (C : Addr) (sp : Sp) (W : WX) (ta : TE) (t : TA) : TE := fun σ H Q => ta σ H fun x H1 => x = .ref C ∧ t σ H1 fun vs H2 => sp (.ref C :: vs) H2 Q (atW W σ)
theorem run_cmW {pins : List (Addr × Obj)} {σ : L2.St} {H : Hp} {s : Shared} {q : Addr} {Q : VK} {us : List Value} {vs : List V} (F : FnR X.prog X.w X.K X.mg X.base (CXW X.prog X.w) k g sp) (hr : Room k X.A) (tk : Takes X W)
    (I : L2.Inv X ((q, PySem.W.methodObj (.ref g) (.ref C)) :: pins) σ H s) (r : Vals vs us) (h : sp (.ref C :: vs) H Q (atW W σ)) : wpAny (model X.prog X.w) X.A (call (.ref q) us) (EP X pins σ Q) X.xe s := by
  have z : wpAny (model X.prog X.w) X.A (call (.ref q) us) (EP X ((q, PySem.W.methodObj (.ref g) (.ref C)) :: pins) σ Q) X.xe s := by
    refine wpAny_call (PySem.W.method_call (pin_at I) (codeAny_mono (F X.A X.stack s H (.ref C :: us) (.ref C :: vs) Q (atW W σ) hr I.env0 (.cons rfl r) h) fun r s' hq => ?_))
    cases r with
    | error e => exact tk e s' (XE.of_call I (fun cls d H' z => z) hq)
    | ok fl =>
      cases fl with
      | ret u => exact I.after hq
      | next => exact False.elim hq
      | brk => exact False.elim hq
      | cont => exact False.elim hq
  exact thn z fun _ _ y => unpinE y
theorem pe_cmethW {pl : Sem Bool} (he : PE X o ta) (r : CRead X.K C mc) (c : CMet X.K C mc m p g) (F : FnR X.prog X.w X.K X.mg X.base (CXW X.prog X.w) k g sp) (hr : Room j X.A) (tk : Takes X W) (ha : PA X (e :: es) t) (hk : k ≤ j := by decide)
    (hst : starEach (e :: es) X.env = (false, eval e X.env) :: starEach es X.env := by rfl) (hpl : (backTo pos (starEach es X.env)).any (·.1) = false := by rfl)
    (ht : eval (.Call (.Attribute o m apos) (e :: es) [] pos) X.env = (do
      let ov ← eval o X.env
      standAt apos.atName
      let (f, first) ← holding [ov] (getMethod ov m pl)
      callWith pos f first (backTo pos (starEach (e :: es) X.env)) (backToKw pos (keywordEach [] X.env))) := by rfl) :
    PE X (.Call (.Attribute o m apos) (e :: es) [] pos) (tCMethW C sp W ta t) := by
  refine ⟨fun pins s σ H Q I h => ?_⟩
  refine PySem.W.methodCall_KW (pl := pl) (thn (he.run pins s σ H _ I h) fun u s1 ⟨x, H1, I1, rx, ex, q⟩ => ?_) ht
  subst ex
  obtain rfl : u = Value.ref C := rx
  refine getmethcm_ok I1 r c fun s2 I2 => ?_
  refine callwith_cm I2 (base_none I1 (Nat.le_refl _)) c.fi (thn (ha.run pos _ s2 σ H1 _ I2 q) fun us s3 ⟨vs, H2, I3, rv, q2⟩ => ⟨⟨pin_at I3, I3.kIn⟩, ?_⟩) hst hpl
  exact run_cmW F (hr.mono hk) tk I3 rv q2
/-- x(e, ..), x a local name of the class at C -/
def tCallV (i : Nat) (C : Addr) (sp : Sp) (t : TA) : TE := fun σ H Q => σ[i]? = some (some (.ref C)) ∧ t σ H fun vs H1 => sp vs H1 Q E0
theorem pmV {cx x : Str} {p : Pos} {i : Nat} (c : Ctor X.prog X.w X.K X.mg X.base k cx sp) (hC : X.mg cx = some (.ref C)) (hr : Room j X.A) (ha : PA X (e :: es) t) (hN : X.N[i]? = some x) (hv : Vis X.env.scope x) (hk : k + 1 ≤ j := by decide)
    (hd : (x == ("__debug__" : Str)) = false := by decide) (hcd : (x == ("__classdict__" : Str)) = false := by decide)
    (he : starEach (e :: es) X.env = (false, eval e X.env) :: starEach es X.env := by rfl) (hpl : (backTo pos (starEach es X.env)).any (·.1) = false := by rfl) : PE X (.Call (.Name x p) (e :: es) [] pos) (tCallV i C sp t) := by
  obtain ⟨C', fi, spi, hm, M, F, kk⟩ := c
  cases hC.symm.trans hm
  refine ⟨fun pins s σ H Q I h => ?_⟩
  obtain ⟨hs, h⟩ := h
  refine wpAny_Call_Name_kw (thn ((pe_var (pos := p) (i := i) hN hv hd hcd).run pins s σ H (fun v H1 => v = .ref C ∧ H1 = H) I ⟨.ref C, hs, rfl, rfl⟩) fun u s0 ⟨v, H0, I0, r0, q0⟩ => ?_)
  obtain ⟨ev, eH⟩ := q0
  subst ev
  rw [eH] at I0
  obtain rfl : u = Value.ref C := r0
  refine PySem.W.callWith_K (h₀ := X.base) I0.ok.mod.kin M.kp (thn (ha.run pos pins s0 σ H _ I0 h) fun us s1 ⟨vs, H1, I1, r, q⟩ => ⟨I1.kIn, ?_⟩) he hpl
  exact StX.run_makeR M F (hr.mono hk) passF I1 r fun y dx h1 h2 h3 => kk vs H1 Q E0 q y dx h1 h2 h3
end
/-- the class x has the classmethod m -/
structure CMeth (K : Frag) (C : Addr) (m : Str) (g : Addr) : Prop where
  rd : ClX.CRead K C (.type "type")
  met : ∃ p, ClX.CMet K C (.type "type") m p g
def isCM (K : Frag) (C : Addr) (p : Addr) (g : Addr) : Option CFound → Bool
  | some (.get (.builtin b) (.ref q) .none (.ref D)) => decide (b = "classmethod.__get__") && (decide (q = p) && (decide (D = C) && fnIn K g))
  | _ => false
def isRec (g : Addr) : Option (List Value) → Bool
  | some (.ref h :: _) => decide (h = g)
  | _ => false
def fCM (x m : Str) (K : Frag) : Bool :=
  decide (readsIn K (gA x K) (.type "type") = true) && (He.eqO (specialIn K (.ref (gA x K)) "__getattribute__") (some (some (.builtin "type.__getattribute__"))) &&
  (isCM K (gA x K) (mA x m K) (rA "classmethod" x m K) (findCls K (.ref (gA x K)) (.type "type") m) && isRec (rA "classmethod" x m K) (recIn K (mA x m K) "classmethod")))
theorem fCM_ok {K : Frag} {x m : Str} (c : fCM x m K = true) : CMeth K (gA x K) m (rA "classmethod" x m K) := by
  obtain ⟨c1, c⟩ := He.ba c
  obtain ⟨c2, c⟩ := He.ba c
  obtain ⟨c3, c4⟩ := He.ba c
  refine ⟨⟨of_decide_eq_true c1, He.eqO_ok c2⟩, mA x m K, ?_⟩
  generalize hf : findCls K (.ref (gA x K)) (.type "type") m = r at c3
  generalize hr : recIn K (mA x m K) "classmethod" = r2 at c4
  unfold isCM at c3
  split at c3
  · obtain ⟨d1, c3⟩ := He.ba c3
    obtain ⟨d2, c3⟩ := He.ba c3
    obtain ⟨d3, d4⟩ := He.ba c3
    have e1 := of_decide_eq_true d1
    have e2 := of_decide_eq_true d2
    have e3 := of_decide_eq_true d3
    subst e1
    unfold isRec at c4
    split at c4
    · have e4 := of_decide_eq_true c4
      rw [e4] at hr
      rw [e2, e3] at hf
      exact ⟨hf, ⟨_, hr⟩, d4⟩
    · cases c4
  · cases c3
end Wo
end
section
set_option Elab.async false
set_option linter.all false
set_option maxRecDepth 100000
set_option maxHeartbeats 4000000
/-! Wo, part S: texts as lists of signs. -/
namespace Wo
open PySem PySem.Spec PyProof.Rows L2
/-- a text of these signs -/
abbrev tx (l : List Nat) : Str := ⟨l.toArray⟩
theorem tx_of (s : Str) : tx s.cps.toList = s := rfl
theorem tx_inj {l m : List Nat} : tx l = tx m ↔ l = m := ⟨fun h => by
  have := congrArg (fun s : Str => s.cps.toList) h
  simpa using this, fun h => by rw [h]⟩
theorem tx_eq {l : List Nat} {s : Str} : tx l = s ↔ l = s.cps.toList := by
  conv => lhs; rhs; rw [← tx_of s]
  exact tx_inj
theorem tx_app {l m : List Nat} : tx l ++ tx m = tx (l ++ m) := by
  show (⟨l.toArray ++ m.toArray⟩ : Str) = _
  simp [tx]
section
variable {H : Hp} {Q : VK} {σ : L2.St} {l m : List Nat} {n c i j : Nat} {to : TE} {z : Str} {ti tj : TE}
theorem tx_len : (tx l).length = l.length := by show l.toArray.size = _; simp
theorem line5 {k : Nat} (h : k ≤ 10 ^ 5) : k ≤ sizeLine := Nat.le_trans h (by decide)
theorem rd_lenS {P : Str → Prop} (hz : l.length ≤ 10 ^ 5) (q : P (tx l)) : ∃ z, [V.str (tx l)] = [.str z] ∧ z.length ≤ sizeLine ∧ P z := ⟨_, rfl, by rw [tx_len]; exact line5 hz, q⟩
theorem rd_ixS (hz : l.length ≤ 10 ^ 5) (h : l[n]? = some c) (q : Q (.str (tx [c])) H) : rIxS (.str (tx l)) (.int (n : Nat)) H Q :=
  ⟨_, _, c, rfl, rfl, by rw [tx_len]; exact line5 hz, atI_nat (by simpa using h), q⟩
theorem rd_inS {P : Nat → Str → Prop} (q : P c z) : ∃ (d : Nat) (y : Str), V.str (tx [c]) = .str ⟨#[d]⟩ ∧ V.str z = .str y ∧ P d y := ⟨c, z, rfl, rfl, q⟩
theorem cut_lo : cutS (tx l) (some (i : Nat)) none = tx (l.drop i) := by
  unfold cutS
  rw [tx_len, HT.sIx_nat, HT.sIx_none]
  show tx (List.take _ (List.drop _ (tx l).cps.toList)) = _
  rw [show (tx l).cps.toList = l from by simp [tx]]
  congr 1
  by_cases h : i ≤ l.length
  · rw [Nat.min_eq_left h, List.take_of_length_le (by rw [List.length_drop]; omega)]
  · rw [Nat.min_eq_right (by omega), List.drop_eq_nil_of_le (Nat.le_refl _), List.drop_eq_nil_of_le (by omega), List.take_nil]
theorem cut_hi : cutS (tx l) none (some (j : Nat)) = tx (l.take j) := by
  unfold cutS
  rw [tx_len, HT.sIx_nat, HT.sIx_none]
  show tx (List.take _ (List.drop _ (tx l).cps.toList)) = _
  rw [show (tx l).cps.toList = l from by simp [tx], List.drop_zero, Nat.sub_zero]
  congr 1
  by_cases h : j ≤ l.length
  · rw [Nat.min_eq_left h]
  · rw [Nat.min_eq_right (by omega), List.take_length, List.take_of_length_le (by omega)]
theorem cut_two : cutS (tx l) (some (i : Nat)) (some (j : Nat)) = tx ((l.take j).drop i) := by
  unfold cutS
  rw [tx_len, HT.sIx_nat, HT.sIx_nat]
  show tx (List.take _ (List.drop _ (tx l).cps.toList)) = _
  rw [show (tx l).cps.toList = l from by simp [tx]]
  congr 1
  rw [List.drop_take]
  by_cases hi : i ≤ l.length
  · rw [Nat.min_eq_left hi]
    by_cases hj : j ≤ l.length
    · rw [Nat.min_eq_left hj]
    · rw [Nat.min_eq_right (by omega), List.take_of_length_le (by rw [List.length_drop]; omega), List.take_of_length_le (by rw [List.length_drop]; omega)]
  · have e : min i l.length = l.length := by omega
    rw [e, List.drop_eq_nil_of_le (Nat.le_refl _), List.drop_eq_nil_of_le (show l.length ≤ i by omega), List.take_nil, List.take_nil]
theorem rd_sl {r : V → Option Int → Option Int → Hp → VK → Prop} {tl th : TO} (q : to σ H fun x H1 => tl σ H1 fun l H2 => th σ H2 fun u H3 => r x l u H3 Q) : L2.tSl r to tl th σ H Q := q
theorem rd_noPart {Q : Option Int → Hp → Prop} (q : Q none H) : tNoPart σ H Q := q
theorem rd_part {Q : Option Int → Hp → Prop} (q : to σ H fun x H1 => ∃ i, x = .int i ∧ Q (some i) H1) : tPart to σ H Q := q
theorem rd_exI {P : Int → Prop} {k : Int} (q : P k) : ∃ i, V.int k = .int i ∧ P i := ⟨k, rfl, q⟩
theorem rd_cutHi (hz : l.length ≤ 10 ^ 5) (q : Q (.str (tx (l.take j))) H) : rSlS (.str (tx l)) none (some (j : Nat)) H Q := ⟨_, rfl, by rw [tx_len]; exact line5 hz, by rw [cut_hi]; exact q⟩
theorem rd_cutLo (hz : l.length ≤ 10 ^ 5) (q : Q (.str (tx (l.drop i))) H) : rSlS (.str (tx l)) (some (i : Nat)) none H Q := ⟨_, rfl, by rw [tx_len]; exact line5 hz, by rw [cut_lo]; exact q⟩
theorem rd_cut2 (hz : l.length ≤ 10 ^ 5) (q : Q (.str (tx ((l.take j).drop i))) H) : rSlS (.str (tx l)) (some (i : Nat)) (some (j : Nat)) H Q := ⟨_, rfl, by rw [tx_len]; exact line5 hz, by rw [cut_two]; exact q⟩
theorem rd_intS {t : List Nat} {k : Int} {P : Int → Prop} (hz : t.length ≤ 10 ^ 5) (hk : PySem.intText? (tx t) = some k) (q : P k) : ∃ a n, [V.str (tx t)] = [.str a] ∧ PySem.intText? a = some n ∧ a.length ≤ sizeLine ∧ P n :=
  ⟨_, k, rfl, hk, by rw [tx_len]; exact line5 hz, q⟩
theorem rd_addS {P : Str → Str → Prop} (hz : l.length + m.length ≤ 10 ^ 5) (q : P (tx l) (tx m)) : ∃ a b, V.str (tx l) = .str a ∧ V.str (tx m) = .str b ∧ a.length + b.length ≤ sizeLine ∧ P a b :=
  ⟨_, _, rfl, rfl, by rw [tx_len, tx_len]; exact line5 hz, q⟩
theorem addS_len {a b : Str} {n : Nat} (h : a.length + b.length ≤ n) (hn : n ≤ sizeLine) : a.length + b.length ≤ sizeLine := Nat.le_trans h hn
theorem rd_callW {sp : Sp} {W : WX} {t : TA} (q : t σ H fun vs H1 => sp vs H1 Q (atW W σ)) : tCallW sp W t σ H Q := q
theorem rd_cmethW {C : Addr} {sp : Sp} {W : WX} {ta : TE} {t : TA} (q : ta σ H fun x H1 => x = .ref C ∧ t σ H1 fun vs H2 => sp (.ref C :: vs) H2 Q (atW W σ)) : tCMethW C sp W ta t σ H Q := q
theorem rd_callV {k : Nat} {C : Addr} {sp : Sp} {t : TA} (h : σ[k]? = some (some (.ref C))) (q : t σ H fun vs H1 => sp vs H1 Q E0) : tCallV k C sp t σ H Q := ⟨h, q⟩
theorem rd_fmtL {t : TE} (q : t σ H fun x H1 => ∃ i : Int, x = .int i ∧ i.natAbs < 10 ^ 4300 ∧ Q (.str (toString i)) H1) : tFmtL t σ H Q := q
theorem rd_xf {a : Addr} {cls : Value} {d : Option Addr} {C : Addr} {f : Str} {te : TE} (q : te σ H fun x H1 => x = .ref a ∧ cls = .ref C ∧ ∃ (dd : Addr) (fs : List (Str × V)) (v : V), d = some dd ∧ H1 dd = some (.xd fs) ∧ fs.lookup f = some v ∧ Q v H1) : tXf a cls d C f te σ H Q := q
theorem rd_aug {k : Nat} {t : TE} {ti : TIp} {D : Ends} {x : V} (h : σ[k]? = some (some x)) (q : t σ H fun y H1 => ti x y H1 fun z H2 => D.nx (σ.set k (some z)) H2) : tAug k t ti D σ H := ⟨x, h, q⟩
theorem rd_ipI {f : Int → Int → Int} {a b : Int} (q : Q (.int (f a b)) H) : ipI f (.int a) (.int b) H Q := ⟨a, b, rfl, rfl, q⟩
theorem ite_neS {A B : Prop} {a b : Str} (h : a = b → A) (g : a ≠ b → B) : if decide (a = b) = true then A else B := by
  by_cases e : a = b
  · rw [if_pos (decide_eq_true e)]; exact h e
  · rw [if_neg (by rw [decide_eq_false e]; decide)]; exact g e
theorem foldl_rep (n : Nat) (l : List Nat) : ∀ a : Array Nat, (List.replicate n l.toArray).foldl (· ++ ·) a = a ++ ((List.replicate n l).flatten).toArray := by
  induction n with
  | zero => intro a; simp
  | succ n ih =>
    intro a
    rw [List.replicate_succ, List.foldl_cons, ih, List.replicate_succ, List.flatten_cons]
    simp [Array.append_assoc]
theorem mul_tx (l : List Nat) (n : Nat) : Txt.mul (tx l) (n : Int) = tx (List.replicate n l).flatten := by
  unfold Txt.mul
  by_cases h0 : n = 0
  · subst h0
    rfl
  · rw [if_neg (by omega)]
    by_cases h1 : n = 1
    · subst h1
      rw [if_pos (by simp)]
      simp
    · by_cases h2 : l.length = 0
      · have e : l = [] := List.length_eq_zero_iff.mp h2
        subst e
        rw [if_pos (by rw [tx_len]; simp)]
        congr 1
        simp
      · have hc : ((n : Int) == 1 || (tx l).length == 0) = false := by
          rw [tx_len, Bool.or_eq_false_iff]
          exact ⟨by simp; omega, by simp; intro z; exact h2 (by rw [z]; rfl)⟩
        rw [if_neg (by rw [hc]; decide), Int.toNat_natCast]
        show (⟨_⟩ : Str) = _
        congr 1
        rw [foldl_rep]
        simp
theorem op_mulS {X : Cx} : OpR X (binaryOp .Mult) (fun x y H Q => ∃ (l : List Nat) (n : Nat), x = .str (tx l) ∧ y = .int n ∧ l.length ≤ 10 ^ 3 ∧ n ≤ 10 ^ 4 ∧ Q (.str (tx (List.replicate n l).flatten)) H) := by
  intro pins s σ H x y v u Q I rx ry h
  obtain ⟨l, n, rfl, rfl, h1, h2, q⟩ := h
  obtain ⟨t, rfl⟩ := rx
  obtain ⟨t', rfl⟩ := ry
  refine SB.mul (mulOk_of (10 ^ 3) (10 ^ 4) ?_ ?_ ?_ ?_ ?_) fun t2 k => ⟨.str (tx (List.replicate n l).flatten), H, I.tok _, ⟨t2, by rw [mul_tx]⟩, q⟩
  · rw [tx_len]; exact h1
  · exact_mod_cast h2
  · omega
  · decide
  · decide
theorem ofS_len (s : String) : (Str.ofString s).length = s.toList.length := by
  rw [show (Str.ofString s).length = (Str.ofString s).cps.toList.length from (Array.length_toList).symm, PyProof.Rows.signs_ofString, List.length_map]
theorem repr_len {m k : Nat} (h : m < 10 ^ k) (hk : 1 ≤ k) : (Nat.repr m).toList.length ≤ k := by
  rw [Nat.toList_repr]
  have := PySem.digitsCore_len_pow 10 (by decide) k (m + 1) m [] hk h
  exact Nat.le_trans this (by simp)
theorem shown_len {i : Int} {k : Nat} (h : i.natAbs < 10 ^ k) (hk : 1 ≤ k) : (Str.ofString (toString i)).length ≤ k + 1 := by
  rw [ofS_len]
  cases i with
  | ofNat m =>
    have := repr_len (m := m) h hk
    exact Nat.le_trans this (Nat.le_succ _)
  | negSucc m =>
    have := repr_len (m := m + 1) h hk
    show ("-" ++ Nat.repr (m + 1)).toList.length ≤ _
    rw [String.toList_append, List.length_append]
    show 1 + _ ≤ _
    omega
theorem dig_mem : c ∈ (Str.ofString "0123456789").cps.toList ↔ 48 ≤ c ∧ c ≤ 57 := by
  have e : (Str.ofString "0123456789").cps.toList = [48, 49, 50, 51, 52, 53, 54, 55, 56, 57] := by decide
  rw [e]
  simp only [List.mem_cons, List.not_mem_nil, or_false]
  omega
end
end Wo
end
section
set_option Elab.async false
set_option linter.all false
set_option maxRecDepth 100000
set_option maxHeartbeats 4000000
/-! Wo, part R: tuples of texts at the top; values of several kinds. -/
namespace Wo
open PySem PySem.Spec PyProof.Rows L2
section
variable {K : PySem.W.Frag} {h : Heap} {mg : Str → Option Value} {x : Str} {zs : List Str}
/-- a global that holds a tuple of these texts -/
def strsB : List Value → List Str → Bool
  | [], [] => true
  | .str y _ :: vs, z :: zs => decide (y = z) && strsB vs zs
  | _, _ => false
theorem strsB_ok : ∀ {vs : List Value} {zs : List Str}, strsB vs zs = true → Vals (zs.map V.str) vs
  | [], [], _ => .nil
  | .str y t :: vs, z :: zs, c => by
    obtain ⟨c1, c2⟩ := He.ba (show (decide (y = z) && strsB vs zs) = true from c)
    have e := of_decide_eq_true c1
    subst e
    exact .cons ⟨t, rfl⟩ (strsB_ok c2)
  | [], _ :: _, c => nomatch c
  | .str _ _ :: _, [], c => nomatch c
def fTupS (x : Str) (zs : List Str) (K : PySem.W.Frag) : Bool := match K.lookup (gA x K) with
  | some ⟨cl, _, .seq its _, _⟩ => decide (cl = .type "tuple") && (decide (its.size ≤ sizeLine) && strsB its.toList zs)
  | _ => false
theorem fTupS_ok (c : fTupS x zs K = true) : ∀ H, SqT K H (gA x K) (zs.map V.str) := by
  intro H
  unfold fTupS at c
  split at c
  · rename_i cl dd its n sl q
    obtain ⟨c1, c⟩ := He.ba c
    obtain ⟨c2, c3⟩ := He.ba c
    exact .inr ⟨_, its, n, q, of_decide_eq_true c1, rfl, of_decide_eq_true c2, strsB_ok c3⟩
  · cases c
end
/-! ### values of several kinds -/
inductive Od where
  | int (i : Int) | none | bool (b : Bool) | str (s : Str) | unit | other
  deriving DecidableEq
def ROd (K : PySem.W.Frag) : Rl Od := fun H v o => match o with
  | .int i => v = .int i
  | .none => v = .non
  | .bool b => v = .bl b
  | .str s => v = .str s
  | .unit => ∃ p, v = .ref p ∧ H p = some (.tup [])
  | .other => ∃ p, v = .ref p ∧ ∃ xs, SqT K H p xs
instance {K : PySem.W.Frag} : Up (ROd K) := ⟨fun {H H' v o} e h => by
  cases o with
  | unit =>
    obtain ⟨p, rfl, hp⟩ := h
    exact ⟨p, rfl, e _ _ hp⟩
  | other =>
    obtain ⟨p, rfl, xs, hp⟩ := h
    exact ⟨p, rfl, xs, Same.seqT e hp⟩
  | _ => exact h⟩
/-- the type of such a value -/
def Od.ty : Od → Value
  | .int _ => .type "int"
  | .none => .type "NoneType"
  | .bool _ => .type "bool"
  | .str _ => .type "str"
  | .unit => .type "tuple"
  | .other => .type "tuple"
theorem ROd.ty {K : PySem.W.Frag} {H : Hp} {v : V} {o : Od} (h : ROd K H v o) : HasTy K H v o.ty := by
  cases o with
  | int i => obtain rfl := h; exact HasTy.int
  | none => obtain rfl := h; exact HasTy.none
  | bool b => obtain rfl := h; exact HasTy.bool
  | str s => obtain rfl := h; exact HasTy.str
  | unit => obtain ⟨p, rfl, hp⟩ := h; exact HasTy.sqT (.inl (.inl hp))
  | other => obtain ⟨p, rfl, xs, hp⟩ := h; exact HasTy.sqT hp
theorem ROd.strH {K : PySem.W.Frag} {H : Hp} {v : V} {o : Od} (h : ROd K H v o) (ho : o ≠ .other) (hi : ∀ i, o = .int i → i.natAbs.log2 < 1920) : StrH H v := by
  cases o with
  | int i => obtain rfl := h; exact hi i rfl
  | none => obtain rfl := h; trivial
  | bool b => obtain rfl := h; trivial
  | str s => obtain rfl := h; trivial
  | unit => obtain ⟨p, rfl, hp⟩ := h; exact StrH.unit hp
  | other => exact absurd rfl ho
section
variable {K : PySem.W.Frag} {H : Hp} {Q : VK} {p : Addr} {s : Str} {zs : List Str}
theorem inV_strs : ∀ {zs : List Str}, inV (.str s) (zs.map V.str) = decide (s ∈ zs)
  | [] => rfl
  | z :: zs => by
    show (eqV (.str z) (.str s) || inV (.str s) (zs.map V.str)) = _
    rw [inV_strs (zs := zs)]
    show (z == s || _) = _
    by_cases h : z = s
    · subst h
      simp
    · have h2 : ¬ s = z := fun e => h e.symm
      rw [show (z == s) = false from by rw [beq_eq_false_iff_ne]; exact h]
      simp [h2]
theorem flat_strs : ∀ {zs : List Str}, (zs.map V.str).all flatV = true
  | [] => rfl
  | _ :: zs => by
    show (true && (zs.map V.str).all flatV) = true
    rw [flat_strs]
    rfl
theorem rd_inTS (h : SqT K H p (zs.map V.str)) (q : Q (.bl (decide (s ∈ zs))) H) : rIn K false (.str s) (.ref p) H Q :=
  ⟨p, _, rfl, .inr h, rfl, flat_strs, by rw [inV_strs]; exact q⟩
theorem rd_ninTS (h : SqT K H p (zs.map V.str)) (q : Q (.bl (!decide (s ∈ zs))) H) : rIn K true (.str s) (.ref p) H Q :=
  ⟨p, _, rfl, .inr h, rfl, flat_strs, by rw [inV_strs]; exact q⟩
end
/-! ### comprehensions with a test -/
section
variable {K : PySem.W.Frag} {α β : Type} {R : Rl α} {S : Rl β} [Up R] [Up S] {J : It} {H1 H : Hp} {as : List α} {g : TG} {te : TE} {tt : TT} {vs : List Nat} {σ : L2.St} {Q : VK} {ta : TA}
def LcF (J : It) (H1 : Hp) (g : TG) (tt : TT) (te : TE) (vs : List Nat) (σ : L2.St) (Q : VK) : Prop :=
  ∀ D, H1 D = none → ∃ W : Nat → Nat → Hp → Prop, (∃ m, W 0 m (upd H1 D (.lst []))) ∧ ∀ i m H, W i m H →
      (J.stop i H ∧ Q (.ref D) H) ∨ (J.go i H ∧ ∃ Nx : Hp → Prop, (∀ H', Nx H' → ∃ m', m' < m ∧ W (i + 1) m' H') ∧ ∀ x H', J.yld i H x H' → g x (wipe σ vs) H' fun σ2 H2 => wipe σ2 vs = wipe σ vs ∧ tHidT tt σ2 H2 fun b H3 =>
        if b = true then (tHid te) σ2 H3 fun y H4 => ∃ acc, H4 D = some (.lst acc) ∧ acc.length < sizeLine ∧ Nx (upd H4 D (.lst (acc ++ [y]))) else Nx H3)
theorem rd_lcR2f (q : ta σ H fun us H1 => ∃ i j : Int, us = [.int i, .int j] ∧ (-(2 ^ 62) ≤ i ∧ i < 2 ^ 62 ∧ -(2 ^ 62) ≤ j ∧ j < 2 ^ 62) ∧ LcF (Itr i (j - i).toNat) H1 g tt te vs σ Q) : tLc (iRng2 ta) g (tHidT tt) (tHid te) vs σ H Q := q
theorem lcF_name {i : Nat} (W : Wk J H1 R as) (hz : as.length ≤ sizeLine) (p : α → Bool) (f : α → β)
    (hd : ∀ v H', Same H1 H' → RL K S H' v ((as.filter p).map f) → Q v H')
    (ht : ∀ a G x, a ∈ as → Same H1 G → R G x a → ∀ Kt : Bool → Hp → Prop, Kt (p a) G → tt ((wipe σ vs).set i (some x)) G Kt)
    (hb : ∀ a G x, a ∈ as → p a = true → Same H1 G → R G x a → ∀ Kt : VK, (∀ y G', Same G G' → S G' y (f a) → Kt y G') → te ((wipe σ vs).set i (some x)) G Kt)
    (hw : ∀ v, wipe ((wipe σ vs).set i (some v)) vs = wipe σ vs := by intro _; rfl) : LcF J H1 (gName i) tt te vs σ Q := by
  intro D hD
  refine ⟨fun i m H => m = as.length - i ∧ i ≤ as.length ∧ ∃ G acc, H = upd G D (.lst acc) ∧ G D = none ∧ Same H1 G ∧ RAll S G acc (((as.take i).filter p).map f), ⟨as.length, by simp, Nat.zero_le _, H1, [], rfl, hD, Same.refl _, by rw [List.take_zero]; exact .nil⟩, ?_⟩
  rintro k m H ⟨rfl, hi, G, acc, rfl, hG, s, ra⟩
  have hla : acc.length ≤ k := by
    rw [ra.len, List.length_map]
    exact Nat.le_trans (List.length_filter_le _ _) (by rw [List.length_take]; omega)
  by_cases hlt : k < as.length
  · refine .inr ⟨W.go k _ (s.trans (Same.new hG)) hlt, fun H' => ∃ G' acc', H' = upd G' D (.lst acc') ∧ G' D = none ∧ Same H1 G' ∧ RAll S G' acc' (((as.take (k + 1)).filter p).map f), ?_, ?_⟩
    · rintro H' ⟨G', acc', e, h1, h2, h3⟩
      exact ⟨as.length - (k + 1), by omega, rfl, hlt, G', acc', e, h1, h2, h3⟩
    · intro x H' hy
      obtain ⟨G', s2, hG', eH, rx⟩ := W.yldD k G D _ x H' as[k] s hG (by simp [hlt]) hy
      subst eH
      have hm : as[k] ∈ as := List.getElem_mem hlt
      have et : as.take (k + 1) = as.take k ++ [as[k]] := by
        rw [List.take_succ]
        simp [hlt]
      refine gok_name _ (Same.new hG') _ ⟨hw x, ?_⟩
      refine ⟨D, acc, upd_same, ?_⟩
      rw [hid_upd hG']
      refine ht as[k] G' x hm (s.trans s2) rx _ fun hG2 => ?_
      by_cases hp : p as[k] = true
      · rw [hp]
        show (if true = true then _ else _)
        rw [if_pos rfl]
        refine ⟨D, acc, upd_same, ?_⟩
        rw [hid_upd hG']
        refine hb as[k] G' x hm hp (s.trans s2) rx _ fun y G2 s3 hy2 hG2 => ?_
        refine ⟨acc, upd_same, by omega, G2, acc ++ [y], ?_, hG2, (s.trans s2).trans s3, ?_⟩
        · rw [upd_upd]
        · rw [et, List.filter_append, List.map_append, List.filter_cons_of_pos hp]
          exact (ra.up (s2.trans s3)).snoc hy2
      · rw [show p as[k] = false from Bool.eq_false_iff.mpr hp]
        show (if false = true then _ else _)
        rw [if_neg (by decide)]
        refine ⟨G', acc, rfl, hG', s.trans s2, ?_⟩
        rw [et, List.filter_append, List.map_append, List.filter_cons_of_neg hp]
        simp only [List.filter_nil, List.map_nil, List.append_nil]
        exact ra.up s2
  · have e : k = as.length := by omega
    subst e
    refine .inl ⟨W.stop _ (s.trans (Same.new hG)), hd _ _ (s.trans (Same.new hG)) ?_⟩
    rw [List.take_length] at ra
    exact RL.mk hG ra (by omega)
end
/-! ### list(range), tuple(range) -/
section
variable {K : PySem.W.Frag} {σ : L2.St} {H : Hp} {Q : VK} {te : L2.St → Hp → (Int → Int → Hp → Prop) → Prop} {ta tb : TE}
theorem rgV_eq (a b : Int) : rgV a b = (rgI a (b - a).toNat).map V.int := by
  unfold rgV rgI
  rw [List.map_map]
  rfl
theorem rd_tupRg (q : te σ H fun a b H1 => RgOk a b ∧ ∀ p, H1 p = none → Q (.ref p) (upd H1 p (.tup (rgV a b)))) : tTupRg te σ H Q := q
theorem rd_lstRg (q : te σ H fun a b H1 => RgOk a b ∧ ∀ p, H1 p = none → Q (.ref p) (upd H1 p (.lst (rgV a b)))) : tLstRg te σ H Q := q
theorem rd_rg1 {Q : Int → Int → Hp → Prop} (q : ta σ H fun x H1 => ∃ n, x = .int n ∧ Q 0 n H1) : tRg1 ta σ H Q := q
theorem rd_rg2 {Q : Int → Int → Hp → Prop} (q : ta σ H fun x H1 => tb σ H1 fun y H2 => ∃ i j, x = .int i ∧ y = .int j ∧ Q i j H2) : tRg2 ta tb σ H Q := q
theorem rg_tup {a b : Int} (K : PySem.W.Frag) (h : RgOk a b) (q : ∀ v H', Same H H' → RT K RI H' v (rgI a (b - a).toNat) → Q v H') : RgOk a b ∧ ∀ p, H p = none → Q (.ref p) (upd H p (.tup (rgV a b))) := by
  have hz : (rgV a b).length ≤ sizeLine := by rw [rgV_length]; exact h.2.2.2.2
  exact ⟨h, fun p hp => q _ _ (Same.new hp) ⟨p, _, rfl, .inl (.inl upd_same), by rw [rgV_eq]; exact RAll.ints, hz⟩⟩
theorem rg_lst {a b : Int} (K : PySem.W.Frag) (h : RgOk a b) (q : ∀ v H', Same H H' → RL K RI H' v (rgI a (b - a).toNat) → Q v H') : RgOk a b ∧ ∀ p, H p = none → Q (.ref p) (upd H p (.lst (rgV a b))) := by
  have hz : (rgV a b).length ≤ sizeLine := by rw [rgV_length]; exact h.2.2.2.2
  exact ⟨h, fun p hp => q _ _ (Same.new hp) (RL.at upd_same (by rw [rgV_eq]; exact RAll.ints) hz)⟩
end
end Wo
end
section
set_option Elab.async false
set_option linter.all false
set_option maxRecDepth 100000
set_option maxHeartbeats 4000000
/-! Wo, part Q: a list of one's own that grows, or whose items are set. -/
namespace Wo
open PySem PySem.Spec PyProof.Rows L2
/-- the list at p holds these, none of which hangs on the list itself -/
def LB {α : Type} (R : Rl α) (H : Hp) (p : Addr) (as : List α) : Prop := ∃ vs, H p = some (.lst vs) ∧ RAll R (hid p H) vs as ∧ vs.length ≤ sizeLine
section
variable {K : PySem.W.Frag} {α β : Type} {R : Rl α} {S : Rl β} [Up R] [Up S] {H H' H1 : Hp} {p : Addr} {as : List α} {bs : List β} {a : α} {v : V} {Q : VK} {n : Nat}
theorem LB.new {vs : List V} (h : H p = none) (r : RAll R H vs as) (hz : vs.length ≤ sizeLine) : LB R (upd H p (.lst vs)) p as :=
  ⟨vs, upd_same, by rw [hid_upd h]; exact r, hz⟩
theorem LB.up (e : Same H H') (h : LB R H p as) : LB R H' p as := by
  obtain ⟨vs, h1, h2, h3⟩ := h
  exact ⟨vs, e _ _ h1, h2.up (Same.hids e), h3⟩
theorem LB.rl (h : LB R H p as) : RL K R H (.ref p) as := by
  obtain ⟨vs, h1, h2, h3⟩ := h
  exact RL.at h1 (h2.up Same.unhid) h3
theorem LB.ty (h : LB R H p as) : tyV K "list" (.ref p) H := by
  obtain ⟨vs, h1, h2, h3⟩ := h
  exact .inl ⟨rfl, vs, .inl (.inl h1)⟩
theorem LB.len (h : LB R H p as) : as.length ≤ sizeLine := by
  obtain ⟨vs, h1, h2, h3⟩ := h
  rw [← h2.len]
  exact h3
theorem LB.push (h : LB R H p as) (hv : R (hid p H) v a) (hn : as.length < sizeLine) (q : ∀ H', (∀ b o, H b = some o → b ≠ p → H' b = some o) → LB R H' p (as ++ [a]) → Q .non H') : rAppend (.ref p) [v] H Q := by
  obtain ⟨vs, h1, h2, h3⟩ := h
  have hl : vs.length < sizeLine := by rw [h2.len]; exact hn
  refine ⟨p, vs, v, rfl, rfl, h1, hl, q _ (fun b o e ne => by rw [upd_ne ne]; exact e) ⟨vs ++ [v], upd_same, ?_, by rw [List.length_append]; exact hl⟩⟩
  rw [hid_upd_same]
  exact h2.snoc hv
theorem RAll.setAt : ∀ {vs : List V} {as : List α} {n : Nat}, RAll R H vs as → R H v a → RAll R H (vs.set n v) (as.set n a)
  | [], [], _, .nil, _ => .nil
  | _ :: _, _ :: _, 0, .cons h t, hv => .cons hv t
  | _ :: _, _ :: _, n + 1, .cons h t, hv => .cons h (RAll.setAt t hv)
theorem LB.put {i : Int} {Q : Hp → Prop} (h : LB R H p as) (hv : R (hid p H) v a) (hn : n < as.length) (q : ∀ H', (∀ b o, H b = some o → b ≠ p → H' b = some o) → LB R H' p (as.set n a) → Q H') (hi : i = (n : Int) := by rfl) : rSetL (.ref p) (.int i) v H Q := by
  subst hi
  obtain ⟨vs, h1, h2, h3⟩ := h
  have hl := h2.len
  refine ⟨p, vs, n, n, rfl, rfl, h1, ?_, q _ (fun b o e ne => by rw [upd_ne ne]; exact e) ⟨vs.set n v, upd_same, ?_, by rw [List.length_set]; exact h3⟩⟩
  · unfold ixN
    rw [if_pos (by omega), if_pos (by omega), Int.toNat_natCast]
  · rw [hid_upd_same]
    exact RAll.setAt h2 hv
/-- an item of it, not hanging on it -/
theorem LB.ix {i : Int} (h : LB R H p as) (hi : as[n]? = some a) (k : ∀ w, R (hid p H) w a → Q w H) (hn : i = (n : Int) := by rfl) : rIxL K (.ref p) (.int i) H Q := by
  subst hn
  obtain ⟨vs, h1, h2, h3⟩ := h
  obtain ⟨w, hw, rw⟩ := h2.getR hi
  exact ⟨p, vs, _, w, rfl, rfl, .inl (.inl h1), atI_nat hw, k w rw⟩
/-- what stays when the own list at p changes: all that is old -/
theorem Same.own (e : Same H H1) (hp : H p = none) (k : ∀ b o, H1 b = some o → b ≠ p → H' b = some o) : Same H H' := fun b o q => k b o (e b o q) (ne_of_none q hp)
theorem hid_own (k : ∀ b o, H b = some o → b ≠ p → H' b = some o) : Same (hid p H) (hid p H') := fun b o q => by
  obtain ⟨n, q⟩ := hid_some q
  rw [hid_ne n]
  exact k b o q n
/-- a tuple of ratios does not hang on a list -/
theorem rtq_hid {C : Addr} {qs : List Rat} {xs : List V} (h : RT K (RQ C) H v qs) (hp : H p = some (.lst xs)) : RT K (RQ C) (hid p H) v qs := by
  obtain ⟨a, ws, rfl, hs, hr, hz⟩ := h
  exact ⟨a, ws, rfl, sqT_hid hs hp, Paired.mono (fun _ _ q => rq_hid q hp) hr, hz⟩
theorem LB.tq {C : Addr} {qs : List Rat} (h : LB S H p bs) (r : RT K (RQ C) H v qs) : RT K (RQ C) (hid p H) v qs := by
  obtain ⟨vs, h1, h2, h3⟩ := h
  exact rtq_hid r h1
/-- a list of ints is not the list of references at p -/
theorem rl_hid {ns : List Int} {q : Addr} {vs : List V} (h : RL K RI H v ns) (hp : H p = some (.lst (.ref q :: vs))) : RL K RI (hid p H) v ns := by
  obtain ⟨a, ws, rfl, hs, hr, hz⟩ := h
  refine ⟨a, ws, rfl, ?_, ?_, hz⟩
  · rcases hs with (hs | ⟨o, hs⟩) | hs
    · by_cases e : a = p
      · subst e
        rw [hp] at hs
        cases hs
        cases hr with
        | cons h t => cases h
      · exact .inl (.inl (by rw [hid_ne e]; exact hs))
    · exact .inl (.inr ⟨o, by rw [hid_at hs hp (fun z => by cases z)]⟩)
    · exact .inr hs
  · rw [RAll.of_ints hr]
    exact RAll.ints
theorem LB.rlHid {rows : List (List Int)} {ns : List Int} (h : LB (RL K RI) H p rows) (hn : 0 < rows.length) (r : RL K RI H v ns) : RL K RI (hid p H) v ns := by
  obtain ⟨vs, h1, h2, h3⟩ := h
  cases h2 with
  | nil => exact absurd hn (by decide)
  | cons a t =>
    obtain ⟨q, ws, rfl, _⟩ := a
    exact rl_hid r h1
/-- a comprehension over a name, the new list told as such -/
theorem lcN_name {J : It} {te : TE} {vs : List Nat} {σ : L2.St} {i : Nat} (W : Wk J H1 R as) (hz : as.length ≤ sizeLine) (f : α → β)
    (hd : ∀ D G acc, Same H1 G → G D = none → RAll S G acc (as.map f) → acc.length ≤ sizeLine → Q (.ref D) (upd G D (.lst acc)))
    (hb : ∀ a G x, a ∈ as → Same H1 G → R G x a → ∀ Kt : VK, (∀ y G', Same G G' → S G' y (f a) → Kt y G') → te ((wipe σ vs).set i (some x)) G Kt)
    (hw : ∀ v, wipe ((wipe σ vs).set i (some v)) vs = wipe σ vs := by intro _; rfl) : LcK J H1 (gName i) te vs σ Q := by
  intro D hD
  refine ⟨fun i m H => m = as.length - i ∧ i ≤ as.length ∧ ∃ G acc, H = upd G D (.lst acc) ∧ G D = none ∧ Same H1 G ∧ RAll S G acc ((as.take i).map f), ⟨as.length, by simp, Nat.zero_le _, H1, [], rfl, hD, Same.refl _, by rw [List.take_zero]; exact .nil⟩, ?_⟩
  rintro k m H ⟨rfl, hi, G, acc, rfl, hG, s, ra⟩
  have hla : acc.length = k := by
    rw [ra.len, List.length_map, List.length_take]
    omega
  by_cases hlt : k < as.length
  · refine .inr ⟨W.go k _ (s.trans (Same.new hG)) hlt, fun H' => ∃ G' acc', H' = upd G' D (.lst acc') ∧ G' D = none ∧ Same H1 G' ∧ RAll S G' acc' ((as.take (k + 1)).map f), ?_, ?_⟩
    · rintro H' ⟨G', acc', e, h1, h2, h3⟩
      exact ⟨as.length - (k + 1), by omega, rfl, hlt, G', acc', e, h1, h2, h3⟩
    · intro x H' hy
      obtain ⟨G', s2, hG', eH, rx⟩ := W.yldD k G D _ x H' as[k] s hG (by simp [hlt]) hy
      subst eH
      have hm : as[k] ∈ as := List.getElem_mem hlt
      have et : as.take (k + 1) = as.take k ++ [as[k]] := by
        rw [List.take_succ]
        simp [hlt]
      refine gok_name _ (Same.new hG') _ ⟨hw x, ?_⟩
      refine tYes_of ?_
      refine ⟨D, acc, upd_same, ?_⟩
      rw [hid_upd hG']
      refine hb as[k] G' x hm (s.trans s2) rx _ fun y G2 s3 hy2 hG2 => ?_
      refine ⟨acc, upd_same, by omega, G2, acc ++ [y], ?_, hG2, (s.trans s2).trans s3, ?_⟩
      · rw [upd_upd]
      · rw [et, List.map_append]
        exact (ra.up (s2.trans s3)).snoc hy2
  · have e : k = as.length := by omega
    subst e
    rw [List.take_length] at ra
    exact .inl ⟨W.stop _ (s.trans (Same.new hG)), hd D G acc s hG ra (by omega)⟩
end
/-! ### loops over a range that begins anywhere -/
section
variable {H : Hp} {g : TG} {tb : TS} {D : Ends} {σ : L2.St} {ta : TA} {lo : Int} {n : Nat}
theorem rd_forR2 (q : ta σ H fun us H1 => ∃ i j : Int, us = [.int i, .int j] ∧ (-(2 ^ 62) ≤ i ∧ i < 2 ^ 62 ∧ -(2 ^ 62) ≤ j ∧ j < 2 ^ 62) ∧ ForK (Itr i (j - i).toNat) H1 g tb D σ) : tFor (iRng2 ta) g tb D σ H := q
theorem rd_gSub {to ti : TE} {t : TSet} {v : V} {P : L2.St → Hp → Prop} (q : to σ H fun o H1 => ti σ H1 fun i H2 => t o i v H2 fun H3 => P σ H3) : gSub to ti t v σ H P := q
theorem forNl (I : Nat → L2.St → Hp → Prop) (h0 : I 0 σ H)
    (hb : ∀ i σ' H', i < n → I i σ' H' → g (.int (lo + (i : Nat))) σ' H' fun σ2 H2 => tb { D with nx := I (i + 1), ct := I (i + 1), bk := D.nx } σ2 H2)
    (hd : ∀ σ' H', I n σ' H' → D.nx σ' H') : ForK (Itr lo n) H g tb D σ := by
  refine ⟨fun i m σ' H' => m = n - i ∧ i ≤ n ∧ I i σ' H', ⟨n, rfl, Nat.zero_le _, h0⟩, ?_⟩
  rintro i m σ' H' ⟨rfl, hi, hI⟩
  by_cases hlt : i < n
  · refine .inr ⟨hlt, I (i + 1), fun σ2 H2 q => ⟨n - (i + 1), by omega, rfl, hlt, q⟩, fun x H'' hy => ?_⟩
    obtain ⟨rfl, rfl⟩ := hy
    exact hb i σ' H'' hlt hI
  · have e : i = n := by omega
    subst e
    exact .inl ⟨Nat.le_refl _, hd σ' H' hI⟩
theorem forKo {α : Type} {R : Rl α} [Up R] {J : It} {H0 : Hp} {as : List α} (W : Wk J H0 R as) (I : Nat → L2.St → Hp → Prop) (h0 : I 0 σ H) (hs : ∀ i σ' H', I i σ' H' → Same H0 H')
    (hb : ∀ i σ' H' a x H'', as[i]? = some a → I i σ' H' → Same H' H'' → Same H0 H'' → R H'' x a → g x σ' H'' fun σ2 H2 => tb { D with nx := I (i + 1), ct := I (i + 1), bk := D.nx } σ2 H2)
    (hd : ∀ σ' H', I as.length σ' H' → D.nx σ' H') : ForK J H g tb D σ := by
  refine ⟨fun i m σ' H' => m = as.length - i ∧ i ≤ as.length ∧ I i σ' H', ⟨as.length, by simp, Nat.zero_le _, h0⟩, ?_⟩
  rintro i m σ' H' ⟨rfl, hi, hI⟩
  have s := hs i σ' H' hI
  by_cases hlt : i < as.length
  · refine .inr ⟨W.go i H' s hlt, I (i + 1), fun σ2 H2 q => ⟨as.length - (i + 1), by omega, rfl, hlt, q⟩, fun x H'' hy => ?_⟩
    obtain ⟨s2, rx⟩ := W.yld i H' x H'' as[i] s (by simp [hlt]) hy
    exact hb i σ' H' as[i] x H'' (by simp [hlt]) hI s2 (s.trans s2) rx
  · have e : i = as.length := by omega
    subst e
    exact .inl ⟨W.stop H' s, hd σ' H' hI⟩
theorem forLo {α : Type} {R : Rl α} [Up R] {K : PySem.W.Frag} {H0 : Hp} {as : List α} {x : V} (h : RL K R H0 x as) (e : Same H0 H) (q : ∀ J, Wk J H0 R as → as.length ≤ sizeLine → ForK J H g tb D σ) : ∃ a, x = .ref a ∧ (∃ xs, SqL K H a xs) ∧ ForK (Itl K a) H g tb D σ := by
  obtain ⟨p, ws, rfl, s, r, z⟩ := id (Up.up (R := RL K R) e h)
  obtain ⟨p', ws', e', s', r', z'⟩ := id h
  cases e'
  exact ⟨p, rfl, ⟨ws, s⟩, q _ (wk_list h) (by rw [← r.len]; exact z)⟩
end
end Wo
end
section
set_option Elab.async false
set_option linter.all false
set_option maxRecDepth 100000
set_option maxHeartbeats 4000000
/-! Wo, part P: lambdas: the tables of code objects, in the hook and in the walk. -/
namespace Wo
open PySem PySem.Spec PyProof.Rows L2
open PySem.W (Frag Hook codeHdIn CodeHd codeHd_of_K)
/-! ### a def's code object and its table -/
def cdI (K : Frag) (a : Addr) : Value := match K.lookup a with
  | some ⟨_, _, .func fd, _⟩ => fd.code
  | _ => .none
def cAd (K : Frag) (f : Addr) : Addr := match cdI K f with
  | .ref c => c
  | _ => 0
def pOf (K : Frag) (c : Addr) : Addr := match K.lookup c with
  | some ⟨_, _, .fields vs, _⟩ => (match (vs[11]? : Option Value) with | some (.ref P) => P | _ => 0)
  | _ => 0
def pAd (K : Frag) (f : Addr) : Addr := pOf K (cAd K f)
/-- the tables of these defs -/
def offs (g : Addr → Option Obj) (n : Nat) (ts : List (Pa × Str)) : List Addr :=
  let K := He.frG g (He.asD g n ++ [cStatics])
  ts.map fun t => pAd K (t.1 K)
def keepT (g : Addr → Option Obj) (n : Nat) (ts : List (Pa × Str)) : List Addr :=
  let l := offs g n ts
  (He.asD g n ++ [cStatics]).filter fun a => !l.contains a
def emptyT (o : Option Obj) : Bool := match o with
  | some ⟨.none, none, .fields vs, sl⟩ => vs.isEmpty && sl.isEmpty
  | _ => false
theorem emptyT_ok {o : Option Obj} (h : emptyT o = true) : o = some { cls := .none, data := .fields #[] } := by
  unfold emptyT at h
  split at h
  · rename_i vs sl
    obtain ⟨h1, h2⟩ := He.ba h
    rw [Array.isEmpty_iff] at h1 h2
    subst h1 h2
    rfl
  · cases h
def tabOk (g : Addr → Option Obj) (K : Frag) (f : Addr) : Bool := codeHdIn K (cAd K f) (pAd K f) && (decide (cdI K f = .ref (cAd K f)) && ((K.lookup (pAd K f)).isNone && emptyT (g (pAd K f))))
/-- what is known of a def's table -/
structure TabF (K : Frag) (h : Heap) (f : Addr) : Prop where
  code : cdI K f = .ref (cAd K f)
  hd : codeHdIn K (cAd K f) (pAd K f) = true
  no : K.lookup (pAd K f) = none
  tab : h.get? (pAd K f) = some { cls := .none, data := .fields #[] }
theorem tabOk_ok {h : Heap} {K : Frag} {f : Addr} (c : tabOk h.get? K f = true) : TabF K h f := by
  obtain ⟨c1, c⟩ := He.ba c
  obtain ⟨c2, c⟩ := He.ba c
  obtain ⟨c3, c4⟩ := He.ba c
  exact ⟨of_decide_eq_true c2, c1, Option.isNone_iff_eq_none.mp c3, emptyT_ok c4⟩
abbrev AlT : Type := AlY × Bool
def obsTG (n : Nat) (fs : List (Frag → Bool)) (ds : List DefX) (es : List EX) (ts : List (Pa × Str)) (g : Addr → Option Obj) : AlT :=
  let K := He.frG g (keepT g n ts)
  (obsY fs ds es K, decide (ts.map fun t => pAd K (t.1 K)).Nodup && ts.all fun t => tabOk g K (t.1 K))
def SaysT (fs : List (Frag → Bool)) (ds : List DefX) (es : List EX) (ts : List (Pa × Str)) (K : Frag) (h : Heap) : Prop := SaysY fs ds es K ∧ (ts.map fun t => pAd K (t.1 K)).Nodup ∧ ∀ t ∈ ts, TabF K h (t.1 K)
def hookT (n : Nat) (fs : List (Frag → Bool)) (ds : List DefX) (es : List EX) (ts : List (Pa × Str)) : Hook where
  α := AlT
  obs := fun s => obsTG n fs ds es ts s.heap.get?
  val := fun _ => (valY ds es, true)
  says := fun _ h => ∃ K : Frag, K.In h ∧ SaysT fs ds es ts K h
  of := fun _ s e => by
    have e1 := (Prod.mk.inj e).1
    have e2 : (_ && _) = true := (Prod.mk.inj e).2
    obtain ⟨c1, c2⟩ := He.ba e2
    exact ⟨_, He.frG_in, e1, of_decide_eq_true c1, fun t ht => tabOk_ok (List.all_eq_true.mp c2 t ht)⟩
  keeps := fun _ _ _ ⟨K, hK, c, c2, c3⟩ k => ⟨K, Frag.In.keeps hK k, c, c2, fun t ht => ⟨(c3 t ht).code, (c3 t ht).hd, (c3 t ht).no, k _ _ (c3 t ht).tab⟩⟩
theorem obsTG_eq {n : Nat} {fs : List (Frag → Bool)} {ds : List DefX} {es : List EX} {ts : List (Pa × Str)} {g : Addr → Option Obj} {s : Shared} (h : ∀ a, g a = s.heap.get? a) : obsTG n fs ds es ts g = (hookT n fs ds es ts).obs s := by
  have e : g = s.heap.get? := funext h
  rw [e] <;> rfl
/-! ### a def whose code object is known -/
section
variable {P : Program} {w : World} {K : Frag} {mg : Str → Option Value} {base : Heap} {x name qual : Str} {params : Arguments} {body : List Stmt} {scope : Scope} {f : Addr} {fd : FuncData} {N ps : List Str} {k : Nat} {sp : Sp}
theorem FunD.okC {CX : CXT} {dvs : List V} {kws : List (Str × V)} (F : FunD K x qual params body scope dvs kws f fd) (S : FnScope N ps scope) (len : ∀ vs H Q E, sp vs H Q E → vs.length = ps.length)
    (hbody : ∀ (cdv : Value) (A : Around) (outer : List Env) (s : Shared) (H : Hp) (vs : List V) (Q : VK) (E : XK), cdI K f = cdv → Room k (A.deeper (envOfC qual scope s.heap.objs.size f cdv)) → sp vs H Q E →
      ∃ t, PSs (cxOf CX P w K mg base N qual scope f cdv A outer s H E) body t ∧ t { nx := fun _ H' => Q .non H', rt := Q } (L2.start N vs) H) : FnOk P w K mg base CX (k + 1) f fd ps sp := by
  obtain ⟨oc, od, dV, kV, doc, pm, an, cdv, ct, osl, rfl, lk, hcd, _, _⟩ := F.ex
  have e : cdI K f = cdv := by unfold cdI; rw [lk]
  exact fn_of lk hcd S len fun A outer s H vs Q E hr hsp => hbody cdv A outer s H vs Q E e hr hsp
theorem cal_ofC (g : mg x = some (.ref f)) (F : ∃ fd, FunD K name qual params body scope [] [] f fd) (S : FnScope N ps scope)
    (hbind : ∀ (kV doc pm : Value) (an : Option Addr) (cdv ct : Value) (us : List Value), us.length = ps.length → bindArgs (PySem.W.fnOf name qual params body scope .none kV doc pm an cdv ct) ⟨us, []⟩ = pure (ps.zip us))
    (len : ∀ vs H Q E, sp vs H Q E → vs.length = ps.length)
    (hbody : ∀ (cdv : Value) (A : Around) (outer : List Env) (s : Shared) (H : Hp) (vs : List V) (Q : VK) (E : XK), cdI K f = cdv → Room k (A.deeper (envOfC qual scope s.heap.objs.size f cdv)) → sp vs H Q E →
      ∃ t, PSs (cxOf (CXW P w) P w K mg base N qual scope f cdv A outer s H E) body t ∧ t { nx := fun _ H' => Q .non H', rt := Q } (L2.start N vs) H) : Cal P w K mg base (k + 1) x sp := by
  obtain ⟨fd, F⟩ := F
  have kp : PySem.W.keepIn K (.ref f) = true := F.kp
  refine ⟨f, g, kp, ?_⟩
  have G := FunD.okC (P := P) (w := w) (mg := mg) (base := base) (CX := CXW P w) F S len hbody
  have b := F.bindsN hbind
  refine (G.raw b .nil).imp fun vs H Q E h => ?_
  rw [List.append_nil]
  exact h
end
/-- the tables of the law's makers of lambdas, with the names of their lambdas -/
def TbK (K : Frag) (ts : List (Pa × Str)) : List (Addr × Str) := ts.map fun t => (pAd K (t.1 K), t.2)
/-- the base knows these tables -/
class Tbs (K : Frag) (mg : Str → Option Value) (base : Heap) (ts : List (Pa × Str)) : Prop where
  nd : (ts.map fun t => pAd K (t.1 K)).Nodup
  code : ∀ t ∈ ts, cdI K (t.1 K) = .ref (cAd K (t.1 K))
  tab : ∀ t ∈ ts, LamX.TabB base mg (cAd K (t.1 K)) (pAd K (t.1 K))
theorem Tbs.mem {K : Frag} {ts : List (Pa × Str)} {t : Pa × Str} (h : t ∈ ts) : (pAd K (t.1 K), t.2) ∈ TbK K ts := List.mem_map.mpr ⟨t, h, rfl⟩
theorem nodup_inj {α β : Type} {g : α → β} : ∀ {l : List α}, (l.map g).Nodup → ∀ {a b : α}, a ∈ l → b ∈ l → g a = g b → a = b
  | c :: l, hn, a, b, ha, hb, e => by
    rw [List.map_cons, List.nodup_cons] at hn
    rcases List.mem_cons.mp ha with ha1 | ha1
    · rcases List.mem_cons.mp hb with hb1 | hb1
      · rw [ha1, hb1]
      · rw [ha1] at e
        exact absurd (e ▸ List.mem_map_of_mem hb1) hn.1
    · rcases List.mem_cons.mp hb with hb1 | hb1
      · rw [hb1] at e
        exact absurd (e ▸ List.mem_map_of_mem ha1) hn.1
      · exact nodup_inj hn.2 ha1 hb1 e
theorem Tbs.uni {K : Frag} {mg : Str → Option Value} {base : Heap} {ts : List (Pa × Str)} (B : Tbs K mg base ts) {t : Pa × Str} (h : t ∈ ts) : ∀ p ∈ TbK K ts, p.1 = pAd K (t.1 K) → p.2 = t.2 := fun p hp e => by
  obtain ⟨u, hu, rfl⟩ := List.mem_map.mp hp
  rw [nodup_inj B.nd hu h e]
theorem takesL {X : Cx} {A : Around} {outer : List Env} {s : Shared} {H : Hp} {E : XK} {scope : Scope} {f c' : Addr} : Takes (LamX.lamCx X A outer s H E scope f c') (ofE E) := takes_of rfl rfl rfl rfl
/-- the wish about exceptions is chosen ahead, the slots left open -/
theorem ps_try_ex {X : Cx} {body : List Stmt} {h₀ : ExceptHandler} {hds : List ExceptHandler} {l : List Clause} {pos : Pos} {tb : XK → TS} {Wout : WX} {n : Nat} (hs : X.stack = X.env :: X.outer) (hf : X.env.frame = some X.env.locals) (tk : Takes X Wout) (hn : X.N.length = n)
    (hb : ∀ (pn : List (Addr × Obj)) (xe : Value → Shared → Prop) (Ech : XK), Takes (X.tr pn xe) (ofE Ech) → PassesOwn (model X.prog X.w) X.A X.env xe → PSs (X.tr pn xe) body (tb Ech))
    (hh : HdM X (h₀ :: hds) l) : PS X (.Try body (h₀ :: hds) [] [] pos) (fun D σ H => ∃ Ech : XK, (∀ cls d σ' H', σ'.length = n → Ech cls d H' → wMix X.K Wout D l cls d σ' H') ∧ tb Ech D σ H) := by
  refine ⟨fun pins s σ H D I h => ?_⟩
  have g := ps_try_mix (pos := pos) (tb := fun W D σ H => ∃ Ech : XK, (∀ cls d σ' H', σ'.length = n → Ech cls d H' → W cls d σ' H') ∧ tb Ech D σ H) hs hf tk (fun W pn xe tkW own => ⟨fun pins s σ H D I h => by
    obtain ⟨Ech, h1, h2⟩ := h
    refine (hb pn xe Ech (fun u s' z => ?_) own).run pins s σ H D I h2
    obtain ⟨a, B, sI, pins', σ', H', cls, d, e, I', nb, up, sky, na, os, ag, w⟩ := z
    exact tkW u s' ⟨a, B, sI, pins', σ', H', cls, d, e, I', nb, up, sky, na, os, ag, h1 _ _ _ _ (I'.len.trans hn) w⟩⟩) hh
  exact g.run pins s σ H D I h
/-- a def that calls what it got; TT: what it makes of the lambda's reading -/
def GivesW (P : Program) (w : World) (K : Frag) (mg : Str → Option Value) (base : Heap) (Ng : List Str) (x : Str) (sg : Scope) (g : Addr) (k : Nat) (bg : List Stmt) (a q : Str) (TT : (XK → Hp → VK → Prop) → Hp → VK → Prop) : Prop :=
  ∀ (cdv : Value) (A : Around) (outer : List Env) (f c' : Addr) (s : Shared) (H : Hp) (Q : VK) (tl : XK → Hp → VK → Prop), Room (k + 1) (A.deeper (envOfC x sg s.heap.objs.size g cdv)) →
    (∀ (pn : List (Addr × Obj)) (xe : Value → Shared → Prop) (E : XK) (p1 p2 : Pos), Takes ((cxOf (CXW P w) P w K mg base Ng x sg g cdv A outer s H E0).tr pn xe) (ofE E) →
      PE ((cxOf (CXW P w) P w K mg base Ng x sg g cdv A outer s H E0).tr pn xe) (.Call (.Name a p1) [] [] p2) (fun σZ HZ Q => σZ[0]? = some (some (.ref f)) ∧ HZ c' = some (LamX.CodeO c' q) ∧ tl E HZ Q)) →
    H c' = some (LamX.CodeO c' q) → TT tl H Q → ∃ t, PSs (cxOf (CXW P w) P w K mg base Ng x sg g cdv A outer s H E0) bg t ∧ t { nx := fun _ H' => Q .non H', rt := Q } (L2.start Ng [.ref f]) H
section
variable {X : Cx} {x a : Str} {g : Addr} {k i : Nat} {pg params : Arguments} {bg : List Stmt} {sg scope : Scope} {Ng : List Str} {ts : List (Pa × Str)} {tp : Pa} {TT : (XK → Hp → VK → Prop) → Hp → VK → Prop} {body : Expr} {t : XK → TE} {p lpos pos : Pos}
/-- x(lambda: e) -/
theorem pe_lamW (hm : X.mg x = some (.ref g)) (F : ∃ fd, FunD X.K x x pg bg sg [] [] g fd) (Sg : FnScope Ng [a] sg)
    (hbg : ∀ (kV doc pm : Value) (an : Option Addr) (cdv ct : Value) (us : List Value), us.length = [a].length → bindArgs (PySem.W.fnOf x x pg bg sg .none kV doc pm an cdv ct) ⟨us, []⟩ = pure ([a].zip us))
    (hG : GivesW X.prog X.w X.K X.mg X.base Ng x sg g k bg a (X.env.qual ++ "<lambda>") TT) (B : Tbs X.K X.mg X.base ts) (hi : ts[i]? = some (tp, X.env.qual ++ "<lambda>")) (hcd : cdI X.K (tp X.K) = X.env.code) (hr : Room (k + 2) X.A)
    (hbody : ∀ (A : Around) (outer : List Env) (s : Shared) (H : Hp) (E : XK) (f c' : Addr), Room k (A.deeper (LamX.lamEnv X scope s.heap.objs.size f c')) → PE (LamX.lamCx X A outer s H E scope f c') body (t E))
    (hL : LamX.lamSB X.env.scope scope = true := by rfl) (hN0 : Ng[0]? = some a := by rfl) (hva : Vis sg a := by exact Or.inl rfl) (hg : Gl X x := by rfl) (hdef : defaultsOf params X.env = ([], []) := by rfl)
    (hbl : ∀ (q : Str) (cl : List (Str × Addr)) (pm cv ctv : Value), bindArgs (PySem.W.kla_fn "<lambda>" q params body scope cl pm cv ctv) ⟨[], []⟩ = pure [] := by intros; rfl)
    (hdb : (x == ("__debug__" : Str)) = false := by decide) (hd : (a == ("__debug__" : Str)) = false := by decide) (hcl : (a == ("__classdict__" : Str)) = false := by decide) :
    PE X (.Call (.Name x p) [.Lambda params body scope lpos] [] pos) (LamX.tLam (TbK X.K ts) TT t) := by
  have ht : (tp, X.env.qual ++ "<lambda>") ∈ ts := List.mem_of_getElem? hi
  have TB := B.tab _ ht
  have hcode : X.env.code = .ref (cAd X.K (tp X.K)) := hcd.symm.trans (B.code _ ht)
  have L := LamX.lamS_by hL
  obtain ⟨fd, F⟩ := F
  have hb := F.bindsN hbg
  obtain ⟨oc, od, dV, kV, doc, pm, an, cdv, ct, osl, rfl, lk, hcg, _, _⟩ := F.ex
  refine ⟨fun pins s σ H Q I ⟨hT, h⟩ => wpAny_Call_Name_kw (ld_glob I hg hm (PySem.W.callWith_K (h₀ := X.base) I.ok.mod.kin F.kp ?_ (by rfl) (by rfl)) hdb)⟩
  refine (show wpAny _ _ (spliced ((false, eval (.Lambda params body scope lpos) X.env) :: backTo pos (starEach [] X.env))) _ _ s from ?_)
  refine Calls.spliced_cons (LamX.lam_make2 I TB hcode (Tbs.mem ht) (B.uni ht) hT hdef (L.has I.ok) fun f c' pm' ctv H1 s' I1 eN T1 hf hfn hfr hco => Calls.spliced_nil ⟨I1.kIn, wpAny_call ?_⟩)
  have step := LamX.run_ofS (CX := CXW X.prog X.w) (N := Ng) (ps := [a]) (us := [.ref f]) (vs := [.ref f]) (Q := Q) (E := E0) lk hcg Sg hr I1.env0 (hb s' [.ref f] I1.kIn rfl) (.cons rfl .nil) rfl fun hr' =>
    hG cdv X.A X.stack f c' s' H1 Q (fun E H' Q' => t E σ H' Q') hr' (fun pn xe E p1 p2 tk => LamX.pe_act (i := 0) I1 L hf hfn hfr (hbl _ _ _ _ _) tk (fun _ _ _ _ z => z) hr' (fun A outer s H hr2 => hbody A outer s H E f c' hr2) hN0 hva hd hcl) hco (h H1 eN T1)
  exact codeAny_mono step fun r s2 hq => match r, hq with
    | .error e, hq => (passF' H1 s' e s2 hq).elim
    | .ok (.ret u), hq => I1.after hq
    | .ok .next, hq => False.elim hq
    | .ok .brk, hq => False.elim hq
    | .ok .cont, hq => False.elim hq
end
/-! ### what lies not on tables -/
def noT (H : Hp) : Hp := fun b => match H b with
  | some (.tbl _) => none
  | o => o
theorem noT_at {H : Hp} {b : Addr} {o : HO} (h : H b = some o) (n : ∀ ps, o ≠ .tbl ps) : noT H b = some o := by
  unfold noT
  rw [h]
  cases o with
  | tbl ps => exact absurd rfl (n ps)
  | _ => rfl
theorem noT_some {H : Hp} {b : Addr} {o : HO} (h : noT H b = some o) : H b = some o ∧ ∀ ps, o ≠ .tbl ps := by
  unfold noT at h
  split at h
  · cases h
  · rename_i n
    exact ⟨h, fun ps z => n ps (by rw [h, z])⟩
theorem noT_same {H H' : Hp} (e : LamX.ExtN H H') : Same (noT H) H' := fun b o h => e b o (noT_some h).1 (noT_some h).2
theorem noT_same2 {H H' : Hp} (e : LamX.ExtN H H') : Same (noT H) (noT H') := fun b o h => noT_at (e b o (noT_some h).1 (noT_some h).2) (noT_some h).2
/-- a relation that does not hang on tables -/
class UpN {α : Type} (R : Rl α) : Prop where
  up : ∀ {H : Hp} {v : V} {a : α}, R H v a → R (noT H) v a
theorem upN {α : Type} {R : Rl α} [UpN R] [Up R] {H H' : Hp} {v : V} {a : α} (e : LamX.ExtN H H') (h : R H v a) : R H' v a := Up.up (noT_same e) (UpN.up h)
instance : UpN RI := ⟨fun h => h⟩
instance : UpN RS := ⟨fun h => h⟩
instance : UpN RB := ⟨fun h => h⟩
section
variable {K : Frag} {H : Hp} {a : Addr} {xs : List V}
theorem sqT_noT (h : SqT K H a xs) : SqT K (noT H) a xs := by
  rcases h with h | h
  · exact .inl (h.imp (fun h => noT_at h (fun ps z => by cases z)) fun ⟨o, h⟩ => ⟨o, noT_at h (fun ps z => by cases z)⟩)
  · exact .inr h
theorem sqL_noT (h : SqL K H a xs) : SqL K (noT H) a xs := by
  rcases h with h | h
  · exact .inl (h.imp (fun h => noT_at h (fun ps z => by cases z)) fun ⟨o, h⟩ => ⟨o, noT_at h (fun ps z => by cases z)⟩)
  · exact .inr h
end
instance {K : Frag} {α : Type} {R : Rl α} [UpN R] : UpN (RT K R) := ⟨fun ⟨p, vs, a, b, c, d⟩ => ⟨p, vs, a, sqT_noT b, Paired.mono (fun _ _ h => UpN.up h) c, d⟩⟩
instance {K : Frag} {α : Type} {R : Rl α} [UpN R] : UpN (RL K R) := ⟨fun ⟨p, vs, a, b, c, d⟩ => ⟨p, vs, a, sqL_noT b, Paired.mono (fun _ _ h => UpN.up h) c, d⟩⟩
instance {K : Frag} {α β : Type} {R : Rl α} {S : Rl β} [UpN R] [UpN S] : UpN (RP K R S) := ⟨fun ⟨p, x, y, a, b, c, d⟩ => ⟨p, x, y, a, sqT_noT b, UpN.up c, UpN.up d⟩⟩
instance {C : Addr} : UpN (RQ C) := ⟨fun {H v q} h => by
  obtain ⟨a, dx, rfl, h | ⟨h1, h2⟩⟩ := h
  · exact absurd h.2 (by simp)
  · exact ⟨a, dx, rfl, .inr ⟨noT_at h1 (fun ps z => by unfold SlX.SlO at z; cases z), noT_at h2 (fun ps z => by cases z)⟩⟩⟩
theorem TyX.noT {K : Frag} {H : Hp} {v : V} {t : Value} (h : TyX K H v t) : TyX K (noT H) v t := by
  cases h with
  | base h =>
    refine .base ?_
    cases h with
    | non => exact .non
    | bl x => exact .bl x
    | int x => exact .int x
    | str x => exact .str x
    | flt x => exact .flt x
    | lst h => exact .lst (noT_at h (fun ps z => by cases z))
    | frz h => exact .frz (noT_at h (fun ps z => by cases z))
    | tup h => exact .tup (noT_at h (fun ps z => by cases z))
    | dK h => exact .dK (noT_at h (fun ps z => by cases z))
    | dT h => exact .dT (noT_at h (fun ps z => by cases z))
    | ins h c a n t m => exact .ins (noT_at h (fun ps z => by cases z)) c a n t m
  | byt b => exact .byt b
  | set h => exact .set (noT_at h (fun ps z => by cases z))
  | kList h c => exact .kList h c
  | kTuple h c => exact .kTuple h c
  | kDict h c => exact .kDict h c
  | fTuple h => exact .fTuple (noT_at h (fun ps z => by cases z))
  | fDict h => exact .fDict (noT_at h (fun ps z => by cases z))
theorem Slt.noT {H : Hp} {a C dx : Addr} {vs : List (Option V)} (h : SlX.Slt H a C dx vs) : SlX.Slt (noT H) a C dx vs := by
  rcases h with ⟨h1, h2⟩ | ⟨h1, h2⟩
  · exact .inl ⟨noT_at h1 (fun ps z => by cases z), h2⟩
  · exact .inr ⟨noT_at h1 (fun ps z => by unfold SlX.SlO at z; cases z), noT_at h2 (fun ps z => by cases z)⟩
theorem HasTy.noT {K : Frag} {H : Hp} {v : V} {t : Value} (h : HasTy K H v t) : HasTy K (noT H) v t := h.imp TyX.noT fun ⟨a, C, dx, vs, h1, h2, h3, h4⟩ => ⟨a, C, dx, vs, h1, h2, Slt.noT h3, h4⟩
instance {K : Frag} : UpN (RTy K) := ⟨fun h => HasTy.noT h⟩
theorem urn_noT {u : Addr} {p : List V → Prop} {H H' : Hp} (e : LamX.ExtN H H') (h : H u = some (UrnO u p)) : H' u = some (UrnO u p) := e _ _ h (fun ps z => by unfold UrnO at z; cases z)
theorem same_extN {H H' : Hp} (e : Same H H') : LamX.ExtN H H' := LamX.ExtN.of e
/-! ### the end of a law with tables -/
theorem tabs_nil {K : Frag} {ts : List (Pa × Str)} {H : Hp} (h : ∀ p ∈ ts.map (fun t => (cAd K (t.1 K), pAd K (t.1 K))), H p.2 = some (.tbl #[])) : LamX.Tabs (TbK K ts) H := fun p hp => by
  obtain ⟨t, ht, rfl⟩ := List.mem_map.mp hp
  exact LamX.TabS.nil (h _ (List.mem_map.mpr ⟨t, ht, rfl⟩))
theorem lawAt_tabs {l : PySem.W.OpenLaw} {w : World} {K : Frag} {k n : Nat} {x : Str} {mg : Str → Option Value} {fa : Addr} {h : Heap} {ts : List (Pa × Str)} {fs : List (Frag → Bool)} {ds : List DefX} {es : List EX} {sp : Sp} {fd : FuncData} (KX : K.In h) (c : SaysT fs ds es ts K h)
    (hb : ∀ (s : Shared) (u : Value), BindsTo s fd ⟨[u], []⟩ [(x, u)])
    (hsp : ∀ (H : Hp) (a : Addr) (ns : List Int), ns.length ≤ n → LamX.Tabs (TbK K ts) H → SqL K H a (ns.map V.int) → sp [.ref a] H (fun v _ => v = .bl true) E0)
    (hF : ∀ base : Heap, Tbs K mg base ts → FnOk l.prog w K mg base L2.CX0 k fa fd [x] sp) : LamX.LawAtS l w K L2.CX0 k n x mg fa h := by
  obtain ⟨c1, nd, ct⟩ := c
  refine ⟨fd, ts.map (fun t => (cAd K (t.1 K), pAd K (t.1 K))), sp, fun p hp => ?_, fun p hp => ?_, fun p hp => ?_, hb, fun H a ns h1 _ h2 h3 => hsp H a ns h1 (tabs_nil h2) h3, fun base _ _ hB => hF base ⟨nd, fun t ht => (ct t ht).code, fun t ht => hB _ (List.mem_map.mpr ⟨t, ht, rfl⟩)⟩⟩
  · obtain ⟨t, ht, rfl⟩ := List.mem_map.mp hp
    exact (ct t ht).tab
  · obtain ⟨t, ht, rfl⟩ := List.mem_map.mp hp
    exact (ct t ht).no
  · obtain ⟨t, ht, rfl⟩ := List.mem_map.mp hp
    exact codeHd_of_K KX (ct t ht).hd
end Wo
end
section
set_option Elab.async false
set_option linter.all false
set_option maxRecDepth 100000
set_option maxHeartbeats 4000000
/-! Wo, part N: a list against the empty one; items taken out of a list of one's own. -/
namespace Wo
open PySem PySem.Spec PyProof.Rows L2
/-- a list != an empty list -/
def rNeE (K : PySem.W.Frag) : R2 := fun x y H Q => ∃ p q xs, x = .ref p ∧ y = .ref q ∧ SqL K H p xs ∧ xs.length ≤ sizeLine ∧ SqL K H q [] ∧ ∀ H', Same H H' → Q (.bl (!xs.isEmpty)) H'
theorem neE {X : Cx} {n : Nat} (hr : Room (n + 1) X.A) : OpR X (compareOp .NotEq) (rNeE X.K) := by
  intro pins s σ H x y v u Q I rx ry h
  obtain ⟨p, q, xs, rfl, rfl, s1, hz, s2, k⟩ := h
  show wpAny (model X.prog X.w) X.A (richCompare .NotEq v u) (EP X pins σ Q) X.xe s
  cases xs with
  | nil =>
    refine wpAny_mono ((rcB_lstN (R := RI) (eqB_int.mono (Nat.zero_le n))) X.A pins s σ H _ _ v u [] [] ⟨hr, rfl⟩ I rx ry ⟨p, [], rfl, s1, .nil, by decide⟩ ⟨q, [], rfl, s2, .nil, by decide⟩) (fun r s' z => ?_) fun _ _ x => x
    obtain ⟨b, rfl, hk, H', I', e⟩ := z
    have hb : b = false := hk.mpr rfl
    subst hb
    exact ⟨.bl false, H', I', rfl, k H' e⟩
  | cons a t =>
    cases rx
    cases ry
    obtain ⟨its0, m01, s01, v01, e01⟩ := I.plist s1
    obtain ⟨its02, m02, s02, v02, e02⟩ := I.plist s2
    have l1 : its0.toArray.size = t.length + 1 := by rw [List.size_toArray, ← v01.length]; rfl
    have l2 : its02.toArray.size = 0 := by rw [List.size_toArray, ← v02.length]; rfl
    have hd : (its0.toArray.size != its02.toArray.size) = true := by rw [l1, l2]; rfl
    refine wpAny_richCompare_same_room (op := .NotEq) ⟨_, e01, rfl⟩ ⟨_, e02, rfl⟩ F.slot_list_ne (GQ.call_here F.slot_list_ne ⟨_, e01, rfl⟩ F.entry_list_ne (F.args_list_ne_2 _ _) ?_) hr.units0
    refine list_neL p q _ _ m01 m02 s01 s02 hd e01 e02 ⟨(fun x => nomatch x), .bl true, H, I, rfl, k H (Same.refl H)⟩
theorem rd_neE {K : PySem.W.Frag} {α : Type} {R : Rl α} {H : Hp} {x : V} {as : List α} {q : Addr} {Q : VK} (h : RL K R H x as) (hq : H q = some (.lst [])) (k : ∀ H', Same H H' → Q (.bl (!as.isEmpty)) H') : rNeE K x (.ref q) H Q := by
  obtain ⟨p, vs, rfl, s, r, z⟩ := h
  refine ⟨p, q, vs, rfl, rfl, s, z, .inl (.inl hq), fun H' e => ?_⟩
  have e2 : vs.isEmpty = as.isEmpty := by
    have := r.len
    cases vs <;> cases as <;> simp_all
  rw [e2]
  exact k H' e
section
variable {α : Type} {R : Rl α} [Up R] {H : Hp} {p : Addr} {as : List α} {a : α} {i : Int} {n : Nat} {Q : VK}
theorem RAll.erase : ∀ {vs : List V} {as : List α} {n : Nat}, RAll R H vs as → RAll R H (vs.eraseIdx n) (as.eraseIdx n)
  | [], [], _, .nil => .nil
  | _ :: _, _ :: _, 0, .cons h t => t
  | _ :: _, _ :: _, n + 1, .cons h t => .cons h (RAll.erase t)
theorem LB.pop (h : LB R H p as) (ha : as[n]? = some a) (hz : as.length < 2 ^ 60) (q : ∀ v H', (∀ b o, H b = some o → b ≠ p → H' b = some o) → R (hid p H') v a → LB R H' p (as.eraseIdx n) → Q v H') (hi : i = (n : Int) := by rfl) : rPopAt (.ref p) [.int i] H Q := by
  subst hi
  obtain ⟨vs, h1, h2, h3⟩ := h
  obtain ⟨w, hw, rw'⟩ := h2.getR ha
  have hl := h2.len
  have hn : n < vs.length := (List.getElem?_eq_some_iff.mp hw).1
  refine ⟨p, vs, _, n, w, rfl, rfl, h1, by omega, by omega, ?_, hw, q w _ (fun b o e ne => by rw [upd_ne ne]; exact e) (by rw [hid_upd_same]; exact rw') ⟨vs.eraseIdx n, upd_same, by rw [hid_upd_same]; exact RAll.erase h2, Nat.le_trans (List.length_eraseIdx_le ..) h3⟩⟩
  rw [seqIndex_of (by omega) (by omega), Int.toNat_natCast]
end
/-! ### math.lcm of greater numbers -/
def rLcmW : List V → Hp → VK → Prop := fun vs H Q => ∃ a b : Int, vs = [.int a, .int b] ∧ (a.natAbs < 2 ^ 13000 ∧ b.natAbs < 2 ^ 13000) ∧ Q (.int ((Nat.lcm a.natAbs b.natAbs : Nat) : Int)) H
theorem cr_lcmW {X : Cx} : CallR X (.builtin "math.lcm") rLcmW := by
  intro pins s σ H vs us Q I r h
  obtain ⟨a, b, rfl, ⟨ha, hb⟩, q⟩ := h
  obtain ⟨t, u, rfl⟩ := Vals.int2 r
  have h1 : (max 1 a.natAbs).log2 ≤ 12999 := PySem.W.mg_log (by show max 1 a.natAbs < 2 ^ 13000; have : 1 < 2 ^ 13000 := Nat.one_lt_two_pow (by decide); omega)
  have h2 : (max a.natAbs b.natAbs).log2 ≤ 12999 := PySem.W.mg_log (by show max a.natAbs b.natAbs < 2 ^ 13000; omega)
  have e : (Nat.lcm 1 a.natAbs).lcm b.natAbs = a.natAbs.lcm b.natAbs := by simp [Nat.lcm]
  have hsz : ((((Nat.lcm 1 a.natAbs).lcm b.natAbs : Nat) : Int)).natAbs.log2 < bitsLine := by
    rw [e, Int.natAbs_natCast]
    have h3 : a.natAbs.lcm b.natAbs < 2 ^ 26000 := Nat.lt_of_le_of_lt (lcm_le' _ _) (by
      rw [show (26000 : Nat) = 13000 + 13000 from rfl, Nat.pow_add]
      exact Nat.mul_lt_mul'' ha hb)
    have h4 : (a.natAbs.lcm b.natAbs).log2 ≤ 25999 := PySem.W.mg_log h3
    exact Nat.lt_of_le_of_lt h4 (by decide)
  refine call_function_meets PySem.W.MGF.kind_lcm PySem.W.MGF.plain_lcm PySem.W.MGF.entry_lcm (PySem.W.MGF.args_lcm _ _) (PySem.W.mg_run_lcm a t b u (by omega) (by omega) hsz).meets ?_
  rw [e]
  exact ⟨.int _, H, I.tok _, ⟨_, rfl⟩, q⟩
theorem rd_lcmW {H : Hp} {Q : VK} {i j : Int} (q : Q (.int ((Nat.lcm i.natAbs j.natAbs : Nat) : Int)) H) (h : i.natAbs < 2 ^ 13000 ∧ j.natAbs < 2 ^ 13000) : rLcmW [.int i, .int j] H Q := ⟨i, j, rfl, h, q⟩
end Wo
end
section
set_option Elab.async false
set_option linter.all false
set_option maxRecDepth 100000
set_option maxHeartbeats 4000000
/-! Wo, part K: tuples put together, cut, repeated; lambdas in readings; tests of ratios. -/
namespace Wo
open PySem PySem.Spec PyProof.Rows L2
section
variable {K : PySem.W.Frag} {α : Type} {R : Rl α} {H : Hp} {Q : VK} {x y : V} {as bs : List α}
/-- t + u -/
theorem rd_catT [Up R] (h1 : RT K R H x as) (h2 : RT K R H y bs) (hz : as.length + bs.length ≤ sizeLine) (k : ∀ v H', Same H H' → RT K R H' v (as ++ bs) → Q v H') : rCatA K x y H Q := by
  obtain ⟨a, xs, rfl, s1, r1, z1⟩ := h1
  obtain ⟨b, ys, rfl, s2, r2, z2⟩ := h2
  have l1 := r1.len
  have l2 := r2.len
  have r3 := r1.append r2
  refine ⟨a, b, xs, ys, rfl, rfl, s1, s2, by omega, fun e => ?_, fun e e2 => ?_, fun e e2 p hp => ?_⟩
  · subst e
    exact k _ _ (Same.refl _) ⟨b, ys, rfl, s2, r3, z2⟩
  · subst e2
    rw [List.append_nil] at r3
    exact k _ _ (Same.refl _) ⟨a, xs, rfl, s1, r3, z1⟩
  · exact k _ _ (Same.new hp) (RT.mk hp r3 (by rw [List.length_append]; omega))
theorem RAll.sub {vs : List V} (h : RAll R H vs as) (i n : Nat) : RAll R H ((vs.drop i).take n) ((as.drop i).take n) := RAll.take n (RAll.drop i h)
/-- t[:n] -/
theorem rd_slTo [Up R] (h : RT K R H x as) (n : Nat) (k : ∀ v H', Same H H' → RT K R H' v (as.take n) → Q v H') : rSlA K x none (some (n : Int)) H Q := by
  obtain ⟨a, xs, rfl, s1, r1, z1⟩ := h
  have l1 := r1.len
  have r3 := RAll.take n r1
  have ec : cutV xs none (some (n : Int)) = xs.take n := by
    unfold cutV
    rw [HT.sIx_none, HT.sIx_nat, List.drop_zero, Nat.sub_zero]
    by_cases h : n ≤ xs.length
    · rw [Nat.min_eq_left h]
    · rw [Nat.min_eq_right (by omega), List.take_of_length_le (Nat.le_refl _), List.take_of_length_le (by omega)]
  refine ⟨a, xs, rfl, s1, fun e => ?_, fun e p hp => ?_⟩
  · have e2 := e.2
    rw [HT.sIx_nat] at e2
    rw [List.take_of_length_le (show xs.length ≤ n by omega)] at r3
    exact k _ _ (Same.refl _) ⟨a, xs, rfl, s1, r3, z1⟩
  · rw [ec]
    exact k _ _ (Same.new hp) (RT.mk hp r3 (by rw [List.length_take]; omega))
/-- t[n:] -/
theorem rd_slTf [Up R] (h : RT K R H x as) (n : Nat) (k : ∀ v H', Same H H' → RT K R H' v (as.drop n) → Q v H') : rSlA K x (some (n : Int)) none H Q := by
  obtain ⟨a, xs, rfl, s1, r1, z1⟩ := h
  have l1 := r1.len
  have r3 := RAll.drop n r1
  have ec : cutV xs (some (n : Int)) none = xs.drop n := by
    unfold cutV
    rw [HT.sIx_none, HT.sIx_nat]
    by_cases h : n ≤ xs.length
    · rw [Nat.min_eq_left h, List.take_of_length_le (by rw [List.length_drop]; omega)]
    · rw [Nat.min_eq_right (by omega), Nat.sub_self, List.take_zero, List.drop_eq_nil_of_le (by omega)]
  refine ⟨a, xs, rfl, s1, fun e => ?_, fun e p hp => ?_⟩
  · have e2 := e.1
    rw [HT.sIx_nat] at e2
    rcases Nat.eq_zero_or_pos n with hn | hn
    · subst hn
      rw [List.drop_zero] at r3
      exact k _ _ (Same.refl _) ⟨a, xs, rfl, s1, r3, z1⟩
    · have h0 : xs.length = 0 := by omega
      rw [List.length_eq_zero_iff.mp h0, List.drop_nil] at r3
      rw [List.length_eq_zero_iff.mp h0] at s1
      exact k _ _ (Same.refl _) ⟨a, [], rfl, s1, r3, Nat.zero_le _⟩
  · rw [ec]
    exact k _ _ (Same.new hp) (RT.mk hp r3 (by rw [List.length_drop]; omega))
theorem flat_rep {β : Type} (b : β) : ∀ n, (List.replicate n [b]).flatten = List.replicate n b
  | 0 => rfl
  | n + 1 => by rw [List.replicate_succ, List.flatten_cons, flat_rep b n]; rfl
theorem RAll.rep {v : V} {a : α} (h : R H v a) : ∀ n, RAll R H (List.replicate n v) (List.replicate n a)
  | 0 => .nil
  | n + 1 => .cons h (RAll.rep h n)
/-- (a,) * n -/
theorem rd_repT1 [Up R] {a : α} {p : Addr} {v : V} {n : Int} (h : SqT K H p [v]) (hv : R H v a) (h2 : 2 ≤ n) (h3 : n ≤ 1000) (k : ∀ v H', Same H H' → RT K R H' v (List.replicate n.toNat a) → Q v H') : rRepT K (.ref p) (.int n) H Q := by
  refine ⟨p, n, [v], rfl, rfl, h, by simp, h2, h3, by show 1 ≤ 1000; decide, fun q hq => ?_⟩
  rw [flat_rep]
  exact k _ _ (Same.new hq) (RT.mk hq (RAll.rep hv _) (by rw [List.length_replicate]; exact Nat.le_trans (show n.toNat ≤ 1000 by omega) (by decide)))
end
section
variable {K : PySem.W.Frag} {α β : Type} {R : Rl α} [Up R] {σ : L2.St} {H : Hp} {Q : VK} {g : TG} {tt : TT} {te tl : TE} {ta : TA} {vs : List Nat} {as : List α} {x : V}
theorem rd_lcTf (q : tl σ H fun x H1 => ∃ a, x = .ref a ∧ (∃ xs, SqT K H1 a xs) ∧ LcF (Itt K a) H1 g tt te vs σ Q) : tLc (iTup K tl) g (tHidT tt) (tHid te) vs σ H Q := q
theorem rd_lcLf (q : tl σ H fun x H1 => ∃ a, x = .ref a ∧ (∃ xs, SqL K H1 a xs) ∧ LcF (Itl K a) H1 g tt te vs σ Q) : tLc (iList K tl) g (tHidT tt) (tHid te) vs σ H Q := q
theorem rd_lcR1f (q : ta σ H fun us H1 => ∃ j : Int, us = [.int j] ∧ -(2 ^ 62) ≤ j ∧ j < 2 ^ 62 ∧ LcF (Itr 0 j.toNat) H1 g tt te vs σ Q) : tLc (iRng1 ta) g (tHidT tt) (tHid te) vs σ H Q := q
theorem lcTf (h : RT K R H x as) (q : ∀ J, Wk J H R as → as.length ≤ sizeLine → LcF J H g tt te vs σ Q) : ∃ a, x = .ref a ∧ (∃ xs, SqT K H a xs) ∧ LcF (Itt K a) H g tt te vs σ Q := by
  obtain ⟨p, ws, rfl, s, r, z⟩ := id h
  exact ⟨p, rfl, ⟨ws, s⟩, q _ (wk_tup h) (by rw [← r.len]; exact z)⟩
theorem lcLf (h : RL K R H x as) (q : ∀ J, Wk J H R as → as.length ≤ sizeLine → LcF J H g tt te vs σ Q) : ∃ a, x = .ref a ∧ (∃ xs, SqL K H a xs) ∧ LcF (Itl K a) H g tt te vs σ Q := by
  obtain ⟨p, ws, rfl, s, r, z⟩ := id h
  exact ⟨p, rfl, ⟨ws, s⟩, q _ (wk_list h) (by rw [← r.len]; exact z)⟩
theorem lcR1f {j : Int} (h2 : j < 10 ^ 6) (q : ∀ J, Wk J H RI (rgI 0 j.toNat) → (rgI 0 j.toNat).length ≤ sizeLine → LcF J H g tt te vs σ Q) (h1 : 0 ≤ j) (hz : 10 ^ 6 ≤ sizeLine := by decide) : ∃ i : Int, [V.int j] = [.int i] ∧ -(2 ^ 62) ≤ i ∧ i < 2 ^ 62 ∧ LcF (Itr 0 i.toNat) H g tt te vs σ Q :=
  ⟨j, rfl, by omega, by omega, q _ wk_range (by rw [rgI_len]; omega)⟩
end
theorem rd_lam {T : List (Addr × Str)} {TT : (XK → Hp → VK → Prop) → Hp → VK → Prop} {t : XK → TE} {σ : L2.St} {H : Hp} {Q : VK} (q : LamX.Tabs T H ∧ ∀ H1, LamX.ExtN H H1 → LamX.Tabs T H1 → TT (fun E H' Q' => t E σ H' Q') H1 Q) : LamX.tLam T TT t σ H Q := q
theorem ext_lst {H H' : Hp} {p : Addr} {vs : List V} (e : LamX.ExtN H H') (h : H p = some (.lst vs)) : H' p = some (.lst vs) := e _ _ h fun ps z => by cases z
theorem rd_opW {C : Addr} {sp : Sp} {W : WX} {ta tb : TE} {σ : L2.St} {H : Hp} {Q : VK} (q : ta σ H fun x H1 => tb σ H1 fun y H2 => (∃ u v, Ob2 C H2 x u v) ∧ (∃ u v, Ob2 C H2 y u v) ∧ sp [x, y] H2 Q (atW W σ)) : tOpW C sp W ta tb σ H Q := q
theorem rd_unW {C : Addr} {sp : Sp} {W : WX} {ta : TE} {σ : L2.St} {H : Hp} {Q : VK} (q : ta σ H fun x H1 => (∃ u v, Ob2 C H1 x u v) ∧ sp [x] H1 Q (atW W σ)) : tUnW C sp W ta σ H Q := q
theorem rd_methW {C : Addr} {sp : Sp} {W : WX} {ta : TE} {t : TA} {σ : L2.St} {H : Hp} {Q : VK} (q : ta σ H fun x H1 => (∃ u v, Ob2 C H1 x u v) ∧ t σ H1 fun ws H2 => sp (x :: ws) H2 Q (atW W σ)) : tMethW C sp W ta t σ H Q := q
theorem extN_own {H H1 H2 : Hp} {p : Addr} {o : HO} (a : LamX.ExtN H H1) (hp : H1 p = none) (b : LamX.ExtN H1 H2) : LamX.ExtN H (upd H2 p o) := fun c u hc n => by
  have h1 := a c u hc n
  rw [upd_ne (ne_of_none h1 hp)]
  exact b c u h1 n
theorem tabs_own {T : List (Addr × Str)} {H : Hp} {p : Addr} {xs ys : List V} (h : H p = some (.lst xs)) (t : LamX.Tabs T H) : LamX.Tabs T (upd H p (.lst ys)) := fun q hq => by
  obtain ⟨ps, h1, h2, h3⟩ := t q hq
  refine ⟨ps, by rw [upd_ne (fun z => by rw [z, h] at h1; cases h1)]; exact h1, h2, fun pos cv hc => ?_⟩
  obtain ⟨c, e1, e2⟩ := h3 pos cv hc
  refine ⟨c, e1, ?_⟩
  rw [upd_ne (fun z => by rw [z, h] at e2; unfold LamX.CodeO at e2; cases e2)]
  exact e2
theorem same_hid_upd {H : Hp} {p : Addr} {o : HO} : Same (Wo.hid p H) (upd H p o) := fun b u q => by
  obtain ⟨n, h⟩ := hid_some q
  rw [upd_ne n]
  exact h
/-! ### flat values of several kinds: == of True and 1 holds -/
inductive Fl where
  | none | num (i : Int) | str (s : Str)
  deriving DecidableEq
def flOf : V → Option Fl
  | .non => some .none
  | .bl b => some (.num (if b then 1 else 0))
  | .int i => some (.num i)
  | .str s => some (.str s)
  | _ => none
def RF : Rl Fl := fun _ v a => flOf v = some a
instance : Up RF := ⟨fun _ h => h⟩
instance : UpN RF := ⟨fun h => h⟩
theorem RF.flat {H : Hp} {v : V} {a : Fl} (h : RF H v a) : flatV v = true := by
  unfold RF flOf at h
  cases v <;> first | rfl | cases h
theorem RF.eq {H : Hp} {x y : V} {a b : Fl} (h1 : RF H x a) (h2 : RF H y b) : eqV x y = true ↔ a = b := by
  unfold RF flOf at h1 h2
  cases x with
  | non => cases y <;> cases h1 <;> cases h2 <;> simp [eqV]
  | bl c => cases y <;> cases h1 <;> cases h2 <;> (try cases c) <;> simp [eqV] <;> (try rename_i d; cases d) <;> simp [eqV]
  | int i => cases y <;> cases h1 <;> cases h2 <;> simp [eqV]
  | str z => cases y <;> cases h1 <;> cases h2 <;> simp [eqV]
  | _ => cases h1
theorem ei_fl {P : Program} {w : World} {K : PySem.W.Frag} {mg : Str → Option Value} {base : Heap} {n : Nat} : EiC P w K mg base n RF := fun X h => ⟨(eqB_flat (R := RF) (fun H x a q => RF.flat (H := H) q) fun H x y a b h1 h2 => RF.eq (H := H) h1 h2).mono (Nat.zero_le n), fun _ _ _ _ _ _ _ _ h1 h2 => Option.some.inj ((show flOf _ = _ from h1).symm.trans h2)⟩
/-- what a fresh object changes -/
theorem same_upd {H G : Hp} {p : Addr} {o : HO} (he : upd H p o = G) (hp : H p = none) : Same H G ∧ G p = some o := by
  subst he
  exact ⟨Same.new hp, upd_same⟩
end Wo
end
section
set_option Elab.async false
set_option linter.all false
set_option maxRecDepth 100000
set_option maxHeartbeats 4000000
/-! Wo, part B6: constructors that let exceptions out; exceptions made of lists, dicts and own instances. -/
namespace Wo
open PySem PySem.Spec PyProof.Rows L2
section
variable {X : Cx} {k j : Nat} {sp : Sp} {W : WX} {x : Str} {p pos : Pos} {e : Expr} {es : List Expr} {t : TA}
theorem run_makeW {pins : List (Addr × Obj)} {σ : L2.St} {H : Hp} {s : Shared} {Q : VK} {us : List Value} {vs : List V} {C f : Addr} (M : Mk X.K C f) (F : FnR X.prog X.w X.K X.mg X.base (CXW X.prog X.w) k f sp) (hr : Room (k + 1) X.A) (tk : Takes X W) (I : L2.Inv X pins σ H s) (r : Vals vs us)
    (h : ∀ x dx, H x = Option.none → H dx = Option.none → dx ≠ x → sp (V.ref x :: vs) (upd (upd H dx (.own x)) x (.ins C dx [])) (fun v H2 => v = .non ∧ Q (.ref x) H2) (atW W σ)) :
    wpAny (model X.prog X.w) X.A (call (.ref C) us) (EP X pins σ Q) X.xe s := by
  have hq := h (s.heap.objs.size + 1) s.heap.objs.size (I.hok.fresh (Nat.le_succ _)) (I.hok.fresh (Nat.le_refl _)) (Nat.ne_of_lt (Nat.lt_succ_self _))
  have I2 := L2.Inv.made (C := C) I
  have r2 : Vals (V.ref (s.heap.objs.size + 1) :: vs) (Value.ref (s.heap.objs.size + 1) :: us) := .cons rfl r
  refine wpAny_call (make_map (f := f) I.kIn M.makes M.init (beq_iff_eq.mp M.fn) (codeAny_mono (F _ X.stack _ _ (Value.ref (s.heap.objs.size + 1) :: us) _ _ (atW W σ) (hr.make C us []) (I2.env0.make C us []) r2 hq) fun r s' hq' => ?_))
  cases r with
  | error e => exact tk e s' (XE.of_call I2 (fun cls d H' z => z) hq')
  | ok fl =>
    cases fl with
    | ret u =>
      obtain ⟨v, H', I3, rv, ev, q3⟩ := I2.after hq'
      subst ev
      exact ⟨rv, ⟨V.ref (s.heap.objs.size + 1), H', I3, rfl, q3⟩⟩
    | next => exact False.elim hq'
    | brk => exact False.elim hq'
    | cont => exact False.elim hq'
/-- C(e, ..): what it raises is wished for by W -/
theorem pmW (c : Ctor X.prog X.w X.K X.mg X.base k x sp) (hr : Room j X.A) (tk : Takes X W) (ha : PA X (e :: es) t) (hk : k + 1 ≤ j := by decide) (hg : Gl X x := by rfl) (hdb : (x == ("__debug__" : Str)) = false := by decide)
    (he : starEach (e :: es) X.env = (false, eval e X.env) :: starEach es X.env := by rfl) (hpl : (backTo pos (starEach es X.env)).any (·.1) = false := by rfl) : PE X (.Call (.Name x p) (e :: es) [] pos) (tCallW sp W t) := by
  obtain ⟨C, fi, spi, hm, M, F, kk⟩ := c
  refine ⟨fun pins s σ H Q I h => ?_⟩
  refine wpAny_Call_Name_kw (ld_glob I hg hm ?_ hdb)
  refine PySem.W.callWith_K (h₀ := X.base) I.ok.mod.kin M.kp (thn (ha.run pos pins s σ H _ I h) fun us s1 ⟨vs, H1, I1, r, q⟩ => ⟨I1.kIn, ?_⟩) he hpl
  exact run_makeW M F (hr.mono hk) tk I1 r fun y dx h1 h2 h3 => kk vs H1 Q (atW W σ) q y dx h1 h2 h3
end
section
variable {prog : Program} {w : World}
theorem list_head0 {M : Model} {A : Around} {E : Value → Shared → Prop} {s : Shared} {Q : Fin → Shared → Prop} {a : Addr} {o : Obj} {x : Value} {l : List Value} {n} {b : Nat}
    (hget : s.heap.get? a = some o) (hd : o.data = .seq (x :: l).toArray n)
    (h : wpAny M A (do again (.builtin "list.__repr__.loop" ⟨[.ref a, rawInt 0, ← newList [], rawInt b], []⟩)) Q E s)
    (h2 : wpAny M A (do rule "list.__repr__.in-itself"; retStr "[...]") Q E s) : wpAny M A (Builtin.listReprAt b ⟨[.ref a], []⟩) Q E s := by
  intro Γ p hΓ
  have h1 := h Γ p hΓ
  have h3 := h2 Γ p hΓ
  unfold Builtin.listReprAt
  simp [slotArgs, Builtin.List.listItems, seqItems?, Sem.wp_load_of (h := hget), hd, Sem.stack]
  show Sem.wp M Γ (if (Γ.below.any _) = true then _ else _) _ _ p s
  split
  · simpa using h3
  · exact h1
theorem list_repr0 {A : Around} {E : Value → Shared → Prop} {s : Shared} {a : Addr} {oa : Obj} {x : Value} {l : List Value} {na : Nat} {ts : List Str} {Q : Value → Shared → Prop} (hTy : s.TypeIs (.ref a) "list")
    (ha : s.heap.get? a = some oa) (hda : oa.data = .seq (x :: l).toArray na) (hlen : ts.length = (x :: l).toArray.size)
    (hT : ∀ (i : Nat) (y : Value), (x :: l).toArray[i]? = some y → ∃ t, ts[i]? = some t ∧ ReprIs prog w y t)
    (hQ : ∀ t h' u tk, (∀ b o, s.heap.get? b = some o → h'.get? b = some o) → Q (.str t u) { s with heap := h', toks := tk })
    (hsz : (listText ts).length ≤ sizeLine) : wpAny (model prog w) A (call (.builtin "list.__repr__") [.ref a]) Q E s := by
  refine wpAny_call (codeAny_call_builtin F.slot_list_repr.plain F.entry_list_repr (F.slot_list_repr.check _ _ _ _ _ _ _ _ hTy (F.args_list_repr_1 _) ?_))
  refine list_head0 (A := A.in1) (b := 0) ha hda ?_ ?_
  · refine wpAny_bind (m := newList []) (wpAny_newObj_type ?_)
    refine wpAny_pure ⟨F.quiet_list_repr_loop _, ?_⟩
    refine codeAny_list_repr_start (P := s.heap.objs.size) (Nat.ne_of_lt (Heap.lt_size ha)) hlen hT (Heap.get?_push_of_some _ ha) hda (Heap.get?_push_size _ rfl) (fun h' u tk hk => ?_) (by omega)
    exact hQ _ h' u tk fun b o e => hk b o (Nat.ne_of_lt (Heap.lt_size e)) (Heap.get?_push_of_some _ e)
  · refine wpAny_bind (wpAny_rule (wpAny_bind (wpAny_mkStr (wpAny_pure ?_) (by decide))))
    exact hQ _ _ _ _ fun b o e => e
theorem dict_repr0 {A : Around} {E : Value → Shared → Prop} {s : Shared} {a : Addr} {o : Obj} {n : Nat} {Q : Value → Shared → Prop} (ha : s.heap.get? a = some o) (hc : o.cls = .type "dict") (hd : o.data = .dict #[] n) (hsys : (a == sysModules) = false)
    (hQ : ∀ t u tk, Q (.str t u) { s with toks := tk }) : wpAny (model prog w) A (call (.builtin "dict.__repr__") [.ref a]) Q E s := by
  refine wpAny_call (codeAny_call_builtin_own (Code.quiet_builtin _ (by decide +kernel)) F.entry_dict_repr (F.slot_dict_repr.check _ _ _ _ _ _ _ _ ⟨o, ha, hc⟩ (F.args_dict_repr_1 _) (wpOwn_of_wpAny ?_)))
  show wpAny _ _ (Builtin.dictReprAt 0 ⟨[.ref a], []⟩) _ _ _
  unfold Builtin.dictReprAt Builtin.Dict.dictSlotNone
  refine wpAny_bind (wpAny_bind (wpAny_notOrdered_dict ⟨o, ha, hc⟩ ?_))
  show wpAny _ _ (pure (Value.ref a)) _ _ s
  refine wpAny_pure ?_
  rw [dictReprRunning_eq]
  refine wpAny_bind (wpAny_bind (wpAny_stack_any fun st => wpAny_pure ?_))
  by_cases hb : st.tail.any (dictGuardF (.ref a)) = true
  · rw [if_pos hb]
    refine wpAny_bind (wpAny_rule (wpAny_bind (wpAny_mkStr (wpAny_pure (hQ _ _ _)) (by decide))))
  · rw [if_neg hb]
    show wpAny _ _ (Builtin.Dict.addrOf (.ref a) >>= _) _ _ s
    refine wpAny_bind (wpAny_pure ?_)
    show wpAny _ _ (Builtin.Dict.showsAll a >>= _) _ _ s
    unfold Builtin.Dict.showsAll
    rw [if_neg (by rw [hsys]; exact Bool.false_ne_true)]
    refine wpAny_bind (wpAny_pure ?_)
    refine wpAny_bind (wpAny_dictEpoch ha hd ?_)
    refine wpAny_bind (wpAny_dictEntries ha hd ?_)
    refine wpAny_bind ?_
    rw [Std.Legacy.Range.forIn_eq_forIn_range']
    refine wpAny_pure ?_
    exact wpAny_bind (wpAny_mkStr (wpAny_pure (hQ _ _ _)) (by decide))
end
section
variable {P : Program} {w : World} {A0 : Around} {fs : List Addr} {os : OsState} {H : Hp} {Rv : Hp → Prop} {h : Heap} {p : Addr} {o : Obj} {n : Nat}
theorem strOk_kept {v : Value} (hk : HOk P w H h) (hR : Rv H)
    (k : ∀ (A : Around) (E : Value → Shared → Prop) (Q : Value → Shared → Prop) (s : Shared), A.units + 32 < cLine → (∀ b o, h.get? b = some o → s.heap.get? b = some o) → (∀ u t h', (∀ b o, s.heap.get? b = some o → h'.get? b = some o) → Q u { s with toks := t, heap := h' }) → wpAny (model P w) A (call (.type "str") [v]) Q E s) : StrOk P w A0 fs os H h v Rv :=
  fun A E Q s L env hu _ _ _ _ _ _ _ _ hk0 ho hb q => k A E Q s hu hk0 fun u t h' kh => q u { s with toks := t, heap := h' } H ho hb (.kept kh) (hk.kept fun b o e => kh b o (hk0 b o e)) hR
theorem strOk_one {x : Value} {t : Str} (hk : HOk P w H h) (hR : Rv H) (hp : h.get? p = some o) (hcl : o.cls = .type "list") (hd : o.data = .seq #[x] n) (hT : ∀ (prog : Program) (w : World), ReprIs prog w x t) (hsz : (listText [t]).length ≤ sizeLine) : StrOk P w A0 fs os H h (.ref p) Rv := by
  refine strOk_kept hk hR fun A E Q s hu hk0 q => ?_
  have ha := hk0 _ _ hp
  exact callType_new F.called_str (by decide) (F.typeCall_str_1 _) (F.newCall_str_1 _) (fun obj => F.args_object_init_2 obj _) F.entry_str_new
    (meets_str_new (S := fun A' R s' => A'.units + 2 < cLine ∧ (∃ o, s'.heap.get? p = some o ∧ o.cls = .type "list" ∧ o.data = .seq #[x] n) ∧ (∀ x u h' tk, (∀ b o, s'.heap.get? b = some o → h'.get? b = some o) → R (.ok (.ret (.str x u))) { s' with heap := h', toks := tk }))
      fun prog' w' A' R s' h => wpAny_strOf_slot rfl (by show A'.units + 1 + 1 < cLine; have := h.1; omega) ⟨_, h.2.1.choose_spec.1, h.2.1.choose_spec.2.1⟩ F.slot_list_str F.slot_list_repr.toG
        (list_repr0 (x := x) (l := []) (ts := [t]) ⟨_, h.2.1.choose_spec.1, h.2.1.choose_spec.2.1⟩ h.2.1.choose_spec.1 h.2.1.choose_spec.2.2 rfl (fun i y hy => by
          cases i with
          | zero => exact ⟨t, rfl, (Option.some.inj (show some x = some y from hy)) ▸ hT prog' w'⟩
          | succ i => cases hy) (fun x h' u tk kh => ⟨_, _, rfl, h.2.2 x u h' tk kh⟩) hsz))
    ⟨by show A.units + 1 + 2 < cLine; omega, ⟨_, ha, hcl, hd⟩, fun x u h' tk kh => ⟨typeIs_str _ _ _, q _ _ _ kh⟩⟩
theorem strOk_emp (hk : HOk P w H h) (hR : Rv H) (hp : h.get? p = some o) (hcl : o.cls = .type "dict") (hd : o.data = .dict #[] n) (hsys : (p == sysModules) = false) : StrOk P w A0 fs os H h (.ref p) Rv := by
  refine strOk_plain hk hR fun A E Q s hu hk0 q => ?_
  have ha := hk0 _ _ hp
  exact callType_new F.called_str (by decide) (F.typeCall_str_1 _) (F.newCall_str_1 _) (fun obj => F.args_object_init_2 obj _) F.entry_str_new
    (meets_str_new (S := fun A' R s' => A'.units + 2 < cLine ∧ (∃ o, s'.heap.get? p = some o ∧ o.cls = .type "dict" ∧ o.data = .dict #[] n) ∧ (∀ x u tk, R (.ok (.ret (.str x u))) { s' with toks := tk }))
      fun prog' w' A' R s' h => wpAny_strOf_slot rfl (by show A'.units + 1 + 1 < cLine; have := h.1; omega) ⟨_, h.2.1.choose_spec.1, h.2.1.choose_spec.2.1⟩ F.slot_dict_str F.slot_dict_repr
        (dict_repr0 h.2.1.choose_spec.1 h.2.1.choose_spec.2.1 h.2.1.choose_spec.2.2 hsys fun x u tk => ⟨_, _, rfl, h.2.2 x u tk⟩))
    ⟨by show A.units + 1 + 2 < cLine; omega, ⟨_, ha, hcl, hd⟩, fun x u tk => ⟨typeIs_str _ _ _, q _ _⟩⟩
/-- the same; or a list of one int; or the empty dict -/
def StrW (H : Hp) (v : V) : Prop := StrH H v ∨ (∃ p i, v = .ref p ∧ H p = some (.lst [.int i]) ∧ 0 ≤ i ∧ i < 10) ∨ ∃ p, v = .ref p ∧ H p = some (.dK [])
theorem listText_digit {i : Int} (h1 : 0 ≤ i) (h2 : i < 10) : (listText [toString i]).length ≤ sizeLine := by
  rcases digits10 h1 h2 with rfl | rfl | rfl | rfl | rfl | rfl | rfl | rfl | rfl | rfl <;> decide +kernel
theorem strOk_ofW {x : V} {v : Value} (r : RelV x v) (hk : HOk P w H h) (k : StrW H x) (hR : Rv H) : StrOk P w A0 fs os H h v Rv := by
  rcases k with k | ⟨p, i, rfl, hp, i0, i1⟩ | ⟨p, rfl, hp⟩
  · exact strOk_of r hk k hR
  · obtain rfl := (show v = Value.ref p from r)
    obtain ⟨hz, us, m, r, hp⟩ := hk p _ hp
    cases r with
    | cons r1 r2 =>
      cases r2
      obtain ⟨t, rfl⟩ := (show ∃ t, _ = Value.int i t from r1)
      exact strOk_one (t := toString i) hk hR hp rfl rfl (fun _ _ => .int t (by
        have : i.natAbs < 10 := by omega
        exact Nat.lt_of_le_of_lt (Nat.log2_le_self _) (by omega))) (listText_digit i0 i1)
  · obtain rfl := (show v = Value.ref p from r)
    obtain ⟨z, y, vs, r, ob, es, ep, e, c⟩ := hk p _ hp
    cases r
    obtain ⟨hx, hd, _, hp2, _⟩ := c
    cases es with
    | mk l =>
      cases hp2
      exact strOk_emp hk hR e hx.1 hd y
end
section
variable {X : Cx} {k j : Nat} {g C' : Addr} {sp : Sp} {W : WX} {x f : Str} {p pos pos' : Pos} {e : Expr} {te : TE}
theorem strOk_own {A0 : Around} {pins : List (Addr × Obj)} {σ : L2.St} {H : Hp} {s0 : Shared} {v u1 u2 : V} {u : Value} {Rv : Hp → Prop} {h1 : Heap} (F : FnR X.prog X.w X.K X.mg X.base (CXW X.prog X.w) k g sp) (O : OwnM X.K C' "__str__" g) (hr : Room (k + 2) A0) (hfr : A0.frames = some X.stack)
    (I : L2.Inv X pins σ H s0) (kk : ∀ b o, s0.heap.get? b = some o → h1.get? b = some o) (hsz : s0.heap.objs.size ≤ h1.objs.size) (r : RelV v u) (o1 : Ob2 C' H v u1 u2) (q : sp [v] H (fun z H' => (∃ y, z = .str y) ∧ Rv H') E0) : StrOk X.prog X.w A0 (frs X.stack) s0.os H h1 u Rv := by
  intro A E Q s L env hu hu2 hd hh hf hkind hfrm hL hLs hk0 ho hb q2
  obtain ⟨p1, d1, rfl, s1'⟩ := o1
  obtain rfl : u = Value.ref p1 := r
  obtain ⟨sl, od, _, J, _⟩ := SlX.slt_inst I s1'
  have kA : ∀ b o, s0.heap.get? b = some o → s.heap.get? b = some o := fun b o e => hk0 b o (kk b o e)
  have hfr2 : A.frames = some (env :: X.stack) := by rw [hf, hfr]; rfl
  obtain ⟨oL, hoL, hdL⟩ := hL
  have hs1 : h1.objs.size ≤ s.heap.objs.size := Nat.le_trans hLs (Nat.le_of_lt (Heap.lt_size hoL))
  have hbs : X.base.objs.size ≤ h1.objs.size := Nat.le_trans (Nat.le_trans I.ok.bsz I.sz) hsz
  have hok : HOk X.prog X.w H s.heap := I.hok.kept kA
  have e0 : Env0 X.prog X.w X.K X.mg X.base A.in1.in1 (env :: X.stack) s H := {
    frames := hfr2
    mod := I.mod
    bs := fun b o e => ⟨kA b o (I.bs b o e).1, (I.bs b o e).2⟩
    bsz := Nat.le_trans hbs hs1
    funs := ⟨hkind, ⟨L, oL, hfrm, Heap.get?_none_of_le (Nat.le_trans hbs hLs), hoL, hdL⟩, Heap.FunFrames.of_keeps (fun b o e _ => ⟨o, kA b o e, rfl⟩) I.stack⟩
    frf := fun b z => by
      unfold frs at z
      rw [List.filterMap_cons, hfrm] at z
      rcases List.mem_cons.mp z with z | z
      · rw [z]; exact (I.hok.kept kk).fresh hLs
      · exact I.stkFree b z
    hok := hok
    bare := hb }
  have hr2 : Room k A.in1.in1 := ⟨by show A.handled = none; rw [hh]; exact hr.hd, by have := hr.dp; show A.depth + 3 * k + 5 < _; omega, by have := hr.un; show A.units + 1 + 1 + 16 * k + 200 < _; omega⟩
  have J2 : PySem.W.InstAt s.heap p1 { PySem.W.instObj C' d1 with slots := sl } C' (some od) := ⟨kA _ _ J.at_, J.cls, J.no, kA _ _ J.dict⟩
  refine PySem.W.kso_call (by have := hr2.un; show A.in1.in1.units < _; omega) (I.kIn.keeps kA) J2 O.at_ O.fn (wpAny_call (codeAny_mono (F A.in1.in1 (env :: X.stack) s H [.ref p1] [.ref p1] _ E0 hr2 e0 (.cons rfl .nil) q) fun r s' z => ?_))
  cases r with
  | error e =>
    obtain ⟨a, B, H', cls, d, _, _, _, _, _, _, _, h⟩ := z
    exact h.elim
  | ok fl =>
    cases fl with
    | ret u =>
      obtain ⟨z', H', os', bare', un', hok', rz, ⟨y, ez⟩, hR⟩ := z
      subst ez
      obtain ⟨t, rfl⟩ := (show ∃ t, u = Value.str y t from rz)
      refine q2 _ s' H' (os'.trans ho) bare' ?_ hok' hR
      have ef : frs (env :: X.stack) = L :: frs X.stack := by
        unfold frs
        rw [List.filterMap_cons, hfrm]
      rw [ef] at un'
      exact un'
    | next => exact False.elim z
    | brk => exact False.elim z
    | cont => exact False.elim z
/-- raise C(e), C with super().__init__(str(a)); self.f = a; e of simple data or an instance of the class at C' with its own __str__ -/
def OKs (C' : Addr) (sp : Sp) (v : V) (H : Hp) (Rv : Hp → Prop) : Prop := (StrW H v ∧ Rv H) ∨ ((∃ u1 u2, Ob2 C' H v u1 u2) ∧ sp [v] H (fun z H' => (∃ y, z = .str y) ∧ Rv H') E0)
theorem ps_supO {C : Addr} (hc : X.calm = true) (tk : Takes X W) (T : SupX X.prog X.w X.K X.mg C f) (F : FnR X.prog X.w X.K X.mg X.base (CXW X.prog X.w) k g sp) (O : OwnM X.K C' "__str__" g) (hr : Room j X.A) (hm : X.mg x = some (.ref C)) (ha : PE X e te) (hk : k + 3 ≤ j := by decide) (hg : Gl X x := by rfl) (hdb : (x == ("__debug__" : Str)) = false := by decide)
    (he : starEach [e] X.env = (false, eval e X.env) :: starEach [] X.env := by rfl) : PS X (.Raise (some (.Call (.Name x p) [e] [] pos)) none pos') (fun _ σ H => te σ H fun v H1 => OKs C' sp v H1 fun H' => ∀ d, H' d = none → W (.ref C) (some d) σ (upd H' d (.xd [(f, v)]))) :=
  ps_raise hc tk (pmk_supG (k := k + 2) (OKv := OKs C' sp) T (hr.mono hk) hm ha (fun A0 pins σ H s v u Rv h1 I r k hz hr hf h => by
    rcases h with ⟨h, hR⟩ | ⟨⟨u1, u2, o1⟩, q⟩
    · exact strOk_ofW r (I.hok.kept k) h hR
    · exact strOk_own F O hr hf I k hz r o1 q) hg hdb he)
end
end Wo
end
section
set_option Elab.async false
set_option linter.all false
set_option maxRecDepth 100000
set_option maxHeartbeats 4000000
/-! Wo, part B7: an instance with its own == against what is none, by !=; lists of one value, equal to themselves. -/
namespace Wo
open PySem PySem.Spec PySem.W PyProof.Rows
section
variable {prog : Program} {w : World} {A : Around} {E : Value → Shared → Prop} {s : Shared} {K : Frag} {x C f : Addr} {ox : Obj} {od : Option Obj} {b tb : Value}
theorem ne_ownB {od : Obj} {Q : Value → Shared → Prop} (hu : A.units + 1 < cLine) (X : K.In s.heap) (I : InstAt s.heap x ox C (some od)) (hb : Looks (model prog w) s.heap (typeOf b) tb) (hn : notFirst K C tb = true) (he : findIn K (.ref C) "__eq__" = some (some (.ref f))) (hf : isFn K (.ref f) = true)
    (hne : findIn K (.ref C) "__ne__" = some (some (.builtin "object.__ne__"))) (hob : mroIn K C (.type "object") = some true)
    (h : wpAny (model prog w) A.in1 (call (.ref f) [.ref x, b]) (fun v s' => ∃ r, v = .bool r ∧ Q (.bool (!r)) s') E s) : wpAny (model prog w) A (richCompare .NotEq (.ref x) b) Q E s := by
  have FB := F.cmp_object
  obtain ⟨hp, g, d, t, os⟩ := s
  have sub : Looks (model prog w) hp (isInstance (.ref x) (.type "object")) true := I.type.andThen (looks_mroIn X hob)
  unfold richCompare
  simp only [oneThing_ref]
  refine wpAny_holding (wpAny_bind (wpAny_cRoomFor (Nat.lt_of_succ_lt hu) ?_))
  rw [cmpInfo_NotEq]
  dsimp only
  refine wpAny_bind (I.type.here (wpAny_bind (hb.here ?_)))
  have one : wpAny (model prog w) A (tryCompare (.ref x) "__ne__" b) (fun r s' => ∃ v, r = some (Value.bool (!v)) ∧ Q (.bool (!v)) s') E ⟨hp, g, d, t, os⟩ := by
    simp only [tryCompare]
    refine wpAny_bind (ifBound_blt X I hne FB.ne (wpAny_call (codeAny_call_builtin FB.ne.plain F.cmpEntry_ne (check_slot F.cmpKind_ne F.cmpSplit_ne sub (F.cmpArgs_ne _ _) ?_))))
    unfold Builtin.«object.__ne__»
    repeat (first
      | with_reducible refine wpAny_cRoomFor hu ?_
      | (refine wpAny_bind (m := callSpecialIfBound? (.ref x) (Str.ofString "__eq__") [b])
          (ifBound_K X I he hf (wpAny_mono h (fun r s' hr => by
            obtain ⟨b, rfl, hq⟩ := hr
            repeat (first | exact ⟨b, rfl, hq⟩ | exact ⟨b, rfl, wpAny_pure ⟨b, rfl, hq⟩⟩ | exact wpAny_pure ⟨b, rfl, wpAny_pure ⟨b, rfl, hq⟩⟩ | (refine wpAny_bind (m := truthy (.bool _)) (wpAny_truthy_bool ?_)) | wp_step)) fun _ _ e => e)))
      | wp_step)
  split
  · rename_i q
    have e : subIn K tb (.ref C) = some false := by
      rcases Bool.or_eq_true_iff.mp hn with e | e
      · rw [beq_iff_eq.mp e] at q; simp at q
      · exact beq_iff_eq.mp e
    refine wpAny_bind ((looks_subIn X e).here ?_)
    simp only [Bool.false_eq_true, if_false]
    refine wpAny_bind (wpAny_mono one (fun r s' z => ?_) fun _ _ e => e)
    obtain ⟨v, rfl, hq⟩ := z
    exact wpAny_pure hq
  · refine wpAny_bind (wpAny_pure ?_)
    simp only [Bool.false_eq_true, if_false]
    refine wpAny_bind (wpAny_mono one (fun r s' z => ?_) fun _ _ e => e)
    obtain ⟨v, rfl, hq⟩ := z
    exact wpAny_pure hq
end
end Wo
namespace Wo
open PySem PySem.Spec PyProof.Rows L2
/-- x != y, x an instance of the class at C with its own ==, y an int or a str -/
def rNeO (C : Addr) (sp : Sp) : R2 := fun x y H Q => (∃ u v, Ob2 C H x u v) ∧ ((∃ i, y = .int i) ∨ ∃ z, y = .str z) ∧ sp [x, y] H (fun z H' => ∃ r, z = .bl r ∧ Q (.bl (!r)) H') E0
section
variable {X : Cx} {n : Nat} {C g : Addr} {sp : Sp}
theorem neO (F : FnR X.prog X.w X.K X.mg X.base (CXW X.prog X.w) n g sp) (O : OwnM X.K C "__eq__" g) (hne : PySem.W.findIn X.K (.ref C) "__ne__" = some (some (.builtin "object.__ne__"))) (hob : PySem.W.mroIn X.K C (.type "object") = some true) (hr : Room (n + 1) X.A) :
    OpR X (compareOp .NotEq) (rNeO C sp) := by
  intro pins s σ H x y v u Q I rx ry hq
  obtain ⟨⟨u1, u2, o1⟩, hy, q⟩ := hq
  obtain ⟨p, dx, rfl, s1⟩ := o1
  cases rx
  obtain ⟨sl, od, _, J, _⟩ := SlX.slt_inst I s1
  show wpAny (model X.prog X.w) X.A (richCompare .NotEq (.ref p) u) (EP X pins σ Q) X.xe s
  have main : ∀ (tb : Value), PySem.W.Looks (model X.prog X.w) s.heap (typeOf u) tb → PySem.W.notFirst X.K C tb = true → wpAny (model X.prog X.w) X.A (richCompare .NotEq (.ref p) u) (EP X pins σ Q) X.xe s := fun tb hb hn => by
    refine ne_ownB (by have := hr.in1.units0; exact this) I.kIn J hb hn O.at_ O.fn hne hob ?_
    refine wpAny_mono (wpAny_call (SlX.run_at (A := X.A.in1) (us := [.ref p, u]) (ws := [.ref p, y]) (E := E0) F hr.in1 I.env0.in1 passF I (.cons rfl (.cons ry .nil)) q)) (fun w s' z => ?_) fun _ _ x => x
    obtain ⟨z', H', I', rz, r, ez, qz⟩ := z
    subst ez
    cases (show w = Value.bool r from rz)
    exact ⟨r, rfl, .bl (!r), H', I', rfl, qz⟩
  rcases hy with ⟨i, rfl⟩ | ⟨z, rfl⟩
  · obtain ⟨t, rfl⟩ := (show ∃ t, u = Value.int i t from ry)
    exact main (.type "int") (.of_pure rfl) (by rfl)
  · obtain ⟨t, rfl⟩ := (show ∃ t, u = Value.str z t from ry)
    exact main (.type "str") (.of_pure rfl) (by rfl)
end
/-- the very object at p -/
def RSm (p : Addr) : Rl Unit := fun _ v _ => v = .ref p
instance {p : Addr} : Up (RSm p) := ⟨fun _ h => h⟩
theorem ei_same {P : Program} {w : World} {K : PySem.W.Frag} {mg : Str → Option Value} {base : Heap} {n : Nat} {p : Addr} : EiC P w K mg base n (RSm p) := fun X l => ⟨fun A pins s σ H x y u v a b sb I rx ry h1 h2 => by
  obtain rfl := h1
  obtain rfl := h2
  cases rx
  cases ry
  exact SeqAt.EqAt.same (A := A) (s := s) (.ref p) X.prog X.w X.xe _ ⟨⟨fun _ => rfl, fun _ => rfl⟩, H, I, Same.refl H⟩, fun _ _ _ _ _ _ _ _ _ _ => rfl⟩
/-- [v] == [v] -/
theorem rd_eqOne {P : Program} {w : World} {K : PySem.W.Frag} {mg : Str → Option Value} {base : Heap} {n : Nat} {H : Hp} {Q : VK} {v : V} {p q : Addr} (hv : (∃ a, v = .ref a) ∨ ∃ f, RF H v f) (h1 : H p = some (.lst [v])) (h2 : H q = some (.lst [v])) (k : ∀ H', Same H H' → Q (.bl true) H') : rEqX P w K mg base (n + 1) (.ref p) (.ref q) H Q := by
  rcases hv with ⟨a, rfl⟩ | ⟨f, hf⟩
  · refine rd_eqX (ec_lst (n := n) (ei_same (p := a))) (RL.at h1 (.cons rfl .nil) (by show 1 ≤ sizeLine; decide) : RL K (RSm a) H (.ref p) [()]) (RL.at h2 (.cons rfl .nil) (by show 1 ≤ sizeLine; decide) : RL K (RSm a) H (.ref q) [()]) fun H' e => ?_
    rw [decide_eq_true rfl]
    exact k H' e
  · refine rd_eqX (ec_lst (n := n) ei_fl) (RL.at h1 (.cons hf .nil) (by show 1 ≤ sizeLine; decide) : RL K RF H (.ref p) [f]) (RL.at h2 (.cons hf .nil) (by show 1 ≤ sizeLine; decide)) fun H' e => ?_
    rw [decide_eq_true rfl]
    exact k H' e
end Wo
end
section
set_option Elab.async false
set_option linter.all false
set_option maxRecDepth 100000
set_option maxHeartbeats 4000000
/-! Wo, part B8: not e, e an instance with its own __bool__. -/
namespace Wo
open PySem PySem.Spec PyProof.Rows L2
section
variable {X : Cx} {k : Nat} {g C : Addr} {sp : Sp} {a : Expr} {ta : TE} {pos : Pos}
def tNotO (C : Addr) (sp : Sp) (ta : TE) : TE := fun σ H Q => ta σ H fun x H1 => (∃ u v, Ob2 C H1 x u v) ∧ sp [x] H1 (fun z H' => ∃ b, z = .bl b ∧ Q (.bl (!b)) H') E0
theorem truthy_ownB {pins : List (Addr × Obj)} {σ : L2.St} {H : Hp} {s : Shared} {x : V} {v : Value} {Qb : Bool → Hp → Prop} (F : FnR X.prog X.w X.K X.mg X.base (CXW X.prog X.w) k g sp) (O : OwnM X.K C "__bool__" g) (hr : Room k X.A) (I : L2.Inv X pins σ H s) (rx : RelV x v) (o1 : ∃ u v, Ob2 C H x u v)
    (q : sp [x] H (fun z H' => ∃ b, z = .bl b ∧ Qb b H') E0) : wpAny (model X.prog X.w) X.A (truthy v) (fun c s2 => ∃ H2, L2.Inv X pins σ H2 s2 ∧ Qb c H2) X.xe s := by
  obtain ⟨u1, v1, o1⟩ := o1
  obtain ⟨p1, d1, rfl, s1'⟩ := o1
  cases (show v = Value.ref p1 from rx)
  obtain ⟨sl, od, _, J, _⟩ := SlX.slt_inst I s1'
  obtain ⟨m', hF⟩ := I.fr
  refine PySem.W.truthy_K hF I.ok.mod.kin J O.at_ O.fn (wpAny_mono (wpAny_call (SlX.run_at (us := [.ref p1]) (ws := [.ref p1]) F hr I.env0 passF I (.cons rfl .nil) q)) (fun w s' z => ?_) fun _ _ x => x)
  obtain ⟨z', H', I', rz, b, ez, qz⟩ := z
  subst ez
  cases (show w = Value.bool b from rz)
  exact ⟨H', I', qz⟩
theorem pe_notOwn (F : FnR X.prog X.w X.K X.mg X.base (CXW X.prog X.w) k g sp) (O : OwnM X.K C "__bool__" g) (hr : Room k X.A) (ha : PE X a ta) : PE X (.UnaryOp .Not a pos) (tNotO C sp ta) := by
  refine ⟨fun pins s σ H Q I h => ?_⟩
  refine UnaryOp_ (thn (ha.run pins s σ H _ I h) fun v s1 ⟨x, H1, I1, r1, o1, q1⟩ => ?_)
  exact not_of (thn (truthy_ownB (Qb := fun b H' => Q (.bl (!b)) H') F O hr I1 r1 o1 q1) fun c s2 ⟨H2, I2, q2⟩ => ⟨.bl (!c), H2, I2, rfl, q2⟩)
end
end Wo
end
section
set_option Elab.async false
set_option linter.all false
set_option maxRecDepth 100000
set_option maxHeartbeats 0
namespace LW
open PySem PySem.Spec PyProof.Rows L2 Wo
def top (i : Nat) : Stmt := PySem.Challenge.pw_worthstead_k00_ratios_in_lowest_terms.main.body.getD i (.Pass ⟨0, 0, 0, 0⟩)
abbrev s_is_integer : Stmt := top 9
abbrev s_Lowest___init__ : Stmt := inClass (top 13) 1
abbrev s_lowest_of : Stmt := top 14
abbrev s_Ratio___init__ : Stmt := inClass (top 15) 1
abbrev s_Ratio_top : Stmt := inClass (top 15) 3
abbrev s_Ratio_bottom : Stmt := inClass (top 15) 4
abbrev s_Ratio_is_less : Stmt := inClass (top 15) 6
abbrev s_Ratio___add__ : Stmt := inClass (top 15) 7
abbrev s_Ratio___sub__ : Stmt := inClass (top 15) 8
abbrev s_Ratio___mul__ : Stmt := inClass (top 15) 9
abbrev s_Ratio___neg__ : Stmt := inClass (top 15) 10
abbrev s_Ratio___abs__ : Stmt := inClass (top 15) 11
abbrev s_Ratio___bool__ : Stmt := inClass (top 15) 12
abbrev s_Ratio___eq__ : Stmt := inClass (top 15) 13
abbrev s_Ratio___str__ : Stmt := inClass (top 15) 14
abbrev s_told_lowest : Stmt := top 16
abbrev s_ratio_from : Stmt := top 17
abbrev s_is_ratio : Stmt := top 18
abbrev s_require_ratio : Stmt := top 19
abbrev s_w_urn : Stmt := top 21
abbrev s_w_drawn : Stmt := top 22
abbrev s_w_one_of : Stmt := top 23
abbrev s_w_divisor : Stmt := top 24
abbrev s_w_lowest : Stmt := top 25
abbrev s_w_power : Stmt := top 26
abbrev s_w_whole : Stmt := top 27
abbrev s_w_text : Stmt := top 28
abbrev s_w_is_shown : Stmt := top 29
abbrev s_w_refused : Stmt := top 30
abbrev s_w_is_kept : Stmt := top 31
abbrev s_w_order_right : Stmt := top 32
abbrev s_w_right : Stmt := top 33
abbrev s_law : Stmt := top 34
def d_is_integer : DefX := ⟨gA "is_integer", "is_integer", "is_integer", defArgs s_is_integer, defBody s_is_integer, defScope s_is_integer, []⟩
def d_Lowest___init__ : DefX := ⟨mA "Lowest" "__init__", "__init__", "Lowest.__init__", defArgs s_Lowest___init__, defBody s_Lowest___init__, defScope s_Lowest___init__, []⟩
def d_lowest_of : DefX := ⟨gA "lowest_of", "lowest_of", "lowest_of", defArgs s_lowest_of, defBody s_lowest_of, defScope s_lowest_of, []⟩
def d_Ratio___init__ : DefX := ⟨mA "Ratio" "__init__", "__init__", "Ratio.__init__", defArgs s_Ratio___init__, defBody s_Ratio___init__, defScope s_Ratio___init__, [.int 1]⟩
def d_Ratio_top : DefX := ⟨rA "property" "Ratio" "top", "top", "Ratio.top", defArgs s_Ratio_top, defBody s_Ratio_top, defScope s_Ratio_top, []⟩
def d_Ratio_bottom : DefX := ⟨rA "property" "Ratio" "bottom", "bottom", "Ratio.bottom", defArgs s_Ratio_bottom, defBody s_Ratio_bottom, defScope s_Ratio_bottom, []⟩
def d_Ratio_is_less : DefX := ⟨mA "Ratio" "is_less", "is_less", "Ratio.is_less", defArgs s_Ratio_is_less, defBody s_Ratio_is_less, defScope s_Ratio_is_less, []⟩
def d_Ratio___add__ : DefX := ⟨mA "Ratio" "__add__", "__add__", "Ratio.__add__", defArgs s_Ratio___add__, defBody s_Ratio___add__, defScope s_Ratio___add__, []⟩
def d_Ratio___sub__ : DefX := ⟨mA "Ratio" "__sub__", "__sub__", "Ratio.__sub__", defArgs s_Ratio___sub__, defBody s_Ratio___sub__, defScope s_Ratio___sub__, []⟩
def d_Ratio___mul__ : DefX := ⟨mA "Ratio" "__mul__", "__mul__", "Ratio.__mul__", defArgs s_Ratio___mul__, defBody s_Ratio___mul__, defScope s_Ratio___mul__, []⟩
def d_Ratio___neg__ : DefX := ⟨mA "Ratio" "__neg__", "__neg__", "Ratio.__neg__", defArgs s_Ratio___neg__, defBody s_Ratio___neg__, defScope s_Ratio___neg__, []⟩
def d_Ratio___abs__ : DefX := ⟨mA "Ratio" "__abs__", "__abs__", "Ratio.__abs__", defArgs s_Ratio___abs__, defBody s_Ratio___abs__, defScope s_Ratio___abs__, []⟩
def d_Ratio___bool__ : DefX := ⟨mA "Ratio" "__bool__", "__bool__", "Ratio.__bool__", defArgs s_Ratio___bool__, defBody s_Ratio___bool__, defScope s_Ratio___bool__, []⟩
def d_Ratio___eq__ : DefX := ⟨mA "Ratio" "__eq__", "__eq__", "Ratio.__eq__", defArgs s_Ratio___eq__, defBody s_Ratio___eq__, defScope s_Ratio___eq__, []⟩
def d_Ratio___str__ : DefX := ⟨mA "Ratio" "__str__", "__str__", "Ratio.__str__", defArgs s_Ratio___str__, defBody s_Ratio___str__, defScope s_Ratio___str__, []⟩
def d_told_lowest : DefX := ⟨gA "told_lowest", "told_lowest", "told_lowest", defArgs s_told_lowest, defBody s_told_lowest, defScope s_told_lowest, []⟩
def d_ratio_from : DefX := ⟨gA "ratio_from", "ratio_from", "ratio_from", defArgs s_ratio_from, defBody s_ratio_from, defScope s_ratio_from, []⟩
def d_is_ratio : DefX := ⟨gA "is_ratio", "is_ratio", "is_ratio", defArgs s_is_ratio, defBody s_is_ratio, defScope s_is_ratio, []⟩
def d_require_ratio : DefX := ⟨gA "require_ratio", "require_ratio", "require_ratio", defArgs s_require_ratio, defBody s_require_ratio, defScope s_require_ratio, []⟩
def d_w_urn : DefX := ⟨gA "_law_urn", "_law_urn", "_law_urn", defArgs s_w_urn, defBody s_w_urn, defScope s_w_urn, []⟩
def d_w_drawn : DefX := ⟨gA "_law_drawn", "_law_drawn", "_law_drawn", defArgs s_w_drawn, defBody s_w_drawn, defScope s_w_drawn, []⟩
def d_w_one_of : DefX := ⟨gA "_law_one_of", "_law_one_of", "_law_one_of", defArgs s_w_one_of, defBody s_w_one_of, defScope s_w_one_of, []⟩
def d_w_divisor : DefX := ⟨gA "_law_divisor", "_law_divisor", "_law_divisor", defArgs s_w_divisor, defBody s_w_divisor, defScope s_w_divisor, []⟩
def d_w_lowest : DefX := ⟨gA "_law_lowest", "_law_lowest", "_law_lowest", defArgs s_w_lowest, defBody s_w_lowest, defScope s_w_lowest, []⟩
def d_w_power : DefX := ⟨gA "_law_power", "_law_power", "_law_power", defArgs s_w_power, defBody s_w_power, defScope s_w_power, []⟩
def d_w_whole : DefX := ⟨gA "_law_whole", "_law_whole", "_law_whole", defArgs s_w_whole, defBody s_w_whole, defScope s_w_whole, []⟩
def d_w_text : DefX := ⟨gA "_law_text", "_law_text", "_law_text", defArgs s_w_text, defBody s_w_text, defScope s_w_text, []⟩
def d_w_is_shown : DefX := ⟨gA "_law_is_shown", "_law_is_shown", "_law_is_shown", defArgs s_w_is_shown, defBody s_w_is_shown, defScope s_w_is_shown, []⟩
def d_w_refused : DefX := ⟨gA "_law_refused", "_law_refused", "_law_refused", defArgs s_w_refused, defBody s_w_refused, defScope s_w_refused, []⟩
def d_w_is_kept : DefX := ⟨gA "_law_is_kept", "_law_is_kept", "_law_is_kept", defArgs s_w_is_kept, defBody s_w_is_kept, defScope s_w_is_kept, []⟩
def d_w_order_right : DefX := ⟨gA "_law_order_right", "_law_order_right", "_law_order_right", defArgs s_w_order_right, defBody s_w_order_right, defScope s_w_order_right, []⟩
def d_w_right : DefX := ⟨gA "_law_right", "_law_right", "_law_right", defArgs s_w_right, defBody s_w_right, defScope s_w_right, []⟩
def d_law : DefX := ⟨gA "law", "law", "law", defArgs s_law, defBody s_law, defScope s_law, []⟩
def ds0 : List DefX := [d_is_integer, d_Lowest___init__, d_lowest_of, d_Ratio___init__, d_Ratio_top, d_Ratio_bottom, d_Ratio_is_less, d_Ratio___add__, d_Ratio___sub__, d_Ratio___mul__, d_Ratio___neg__, d_Ratio___abs__, d_Ratio___bool__, d_Ratio___eq__, d_Ratio___str__, d_told_lowest, d_ratio_from, d_is_ratio, d_require_ratio, d_w_urn]
def ds1 : List DefX := [d_w_drawn, d_w_one_of, d_w_divisor, d_w_lowest, d_w_power, d_w_whole, d_w_text, d_w_is_shown, d_w_refused, d_w_is_kept, d_w_order_right, d_w_right, d_law]
def ds : List DefX := ds0 ++ ds1
abbrev s_InvalidNumber___init__ : Stmt := inClass (top 5) 0
abbrev s_TooMany___init__ : Stmt := inClass (top 6) 0
def fs0 : List (PySem.W.Frag → Bool) := [fGlo "is_integer", fGlo "lowest_of", fGlo "told_lowest", fGlo "ratio_from", fGlo "is_ratio", fGlo "require_ratio", fGlo "_law_urn", fGlo "_law_drawn", fGlo "_law_one_of", fGlo "_law_divisor", fGlo "_law_lowest", fGlo "_law_power", fGlo "_law_whole", fGlo "_law_text", fGlo "_law_is_shown", fGlo "_law_refused", fGlo "_law_is_kept", fGlo "_law_order_right", fGlo "_law_right", fGlo "law"]
def fs1 : List (PySem.W.Frag → Bool) := [fGlo "WorthError", fGlo "InvalidRatio", fGlo "InvalidNumber", fGlo "TooMany", fGlo "Lowest", fGlo "Ratio", fFree "abs", fFree "bool", fFree "int", fFree "isinstance", fFree "len", fFree "max", fFree "min", fFree "range", fFree "str", fFree "NotImplemented", fBlt "gcd" "math.gcd", fInt "GREAT" (10 ^ 60), fInt "MAX_DIGITS" (2000), fInt "FIRST_TOO_GREAT" ((10 ^ 50) ^ 40)]
def fs2 : List (PySem.W.Frag → Bool) := [fSl2 "Lowest" "own_bottom" "own_top", fSl2 "Ratio" "own_bottom" "own_top", fKit (fun _ => .type "int") "Lowest" false, fKit (fun _ => .type "str") "Lowest" false, fKit (fun _ => .type "bool") "Lowest" false, fKit (fun _ => .type "NoneType") "Lowest" false, fKit (fun _ => .type "tuple") "Lowest" false, fKit (fun _ => .type "list") "Lowest" false, fKit (fun _ => .type "dict") "Lowest" false, fKit (fun K => .ref (gA "Lowest" K)) "Lowest" true, fKit (fun K => .ref (gA "Ratio" K)) "Lowest" false, fKit (fun _ => .type "int") "Ratio" false, fKit (fun _ => .type "str") "Ratio" false, fKit (fun _ => .type "bool") "Ratio" false, fKit (fun _ => .type "NoneType") "Ratio" false, fKit (fun _ => .type "tuple") "Ratio" false, fKit (fun _ => .type "list") "Ratio" false, fKit (fun _ => .type "dict") "Ratio" false, fKit (fun K => .ref (gA "Lowest" K)) "Ratio" false, fKit (fun K => .ref (gA "Ratio" K)) "Ratio" true]
def fs3 : List (PySem.W.Frag → Bool) := [fProp "Ratio" "top", fProp "Ratio" "bottom", fOwn "Ratio" "over", fOwn "Ratio" "is_less", fOwn "Ratio" "__add__", fOwn "Ratio" "__sub__", fOwn "Ratio" "__mul__", fOwn "Ratio" "__neg__", fOwn "Ratio" "__abs__", fOwn "Ratio" "__bool__", fOwn "Ratio" "__eq__", fOwn "Ratio" "__str__", fDig, fFindB "Ratio" "__ne__" "object.__ne__", fKitB "Lowest" "bool" false, fKitB "Lowest" "int" false, fKitB "Ratio" "bool" false, fKitB "Ratio" "int" false, fFree "super", fSup "InvalidNumber" "given" "InvalidNumber.__init__" "/claim/cut.py" "IndexError" "IndexError.__new__" "IndexError.__init__" (fun _ => []) bmIndex]
def fs4 : List (PySem.W.Frag → Bool) := [fXf "InvalidNumber", fLack "InvalidNumber" "given", fSup "TooMany" "limit" "TooMany.__init__" "/claim/cut.py" "OverflowError" "OverflowError.__new__" "OverflowError.__init__" (fun _ => []) bmOver, fXf "TooMany", fLack "TooMany" "limit", fOwnV "InvalidRatio", fExm (fun K => .ref (gA "InvalidNumber" K)) (fun K => .ref (gA "InvalidNumber" K)) true, fExm (fun K => .ref (gA "InvalidNumber" K)) (fun K => .ref (gA "InvalidRatio" K)) false, fExm (fun K => .ref (gA "TooMany" K)) (fun K => .ref (gA "InvalidNumber" K)) false, fExm (fun K => .ref (gA "TooMany" K)) (fun K => .ref (gA "InvalidRatio" K)) false, fExm (fun K => .ref (gA "InvalidRatio" K)) (fun K => .ref (gA "InvalidNumber" K)) false, fExm (fun K => .ref (gA "InvalidRatio" K)) (fun K => .ref (gA "InvalidRatio" K)) true]
def fs : List (PySem.W.Frag → Bool) := fs0 ++ fs1 ++ fs2 ++ fs3 ++ fs4
def loose0 : List Str := ["_wall", "__name__", "WorthError", "InvalidRatio", "InvalidNumber", "TooMany", "GREAT", "is_integer", "MAX_DIGITS", "FIRST_TOO_GREAT", "Lowest", "lowest_of", "Ratio", "told_lowest", "ratio_from", "is_ratio", "require_ratio", "_law_urn", "_law_drawn", "_law_one_of"]
def loose1 : List Str := ["_law_divisor", "_law_lowest", "_law_power", "_law_whole", "_law_text", "_law_is_shown", "_law_refused", "_law_is_kept", "_law_order_right", "_law_right"]
def loose : List Str := loose0 ++ loose1
abbrev R : PySem.W.OpenRow := PySem.W.OpenLaw.row PySem.Challenge.rw_worthstead_k00_ratios_in_lowest_terms
abbrev qv : Program := PySem.W.view R.prog [0, 34]
def es : List EX := [⟨mA "InvalidNumber" "__init__", some ("__init__", "InvalidNumber.__init__", defArgs s_InvalidNumber___init__, .stmts (defBody s_InvalidNumber___init__), defScope s_InvalidNumber___init__, mainGlobals, [("__class__", 0)], builtinsNs)⟩, ⟨mA "TooMany" "__init__", some ("__init__", "TooMany.__init__", defArgs s_TooMany___init__, .stmts (defBody s_TooMany___init__), defScope s_TooMany___init__, mainGlobals, [("__class__", 0)], builtinsNs)⟩]
abbrev ts : List (Pa × Str) := [(gA "_law_right", "_law_right.<locals>.<lambda>")]
abbrev hk : PySem.W.Hook := hookT 6 fs ds es ts
def ob (s : PySem.W.SharedT) : AlT := obsTG 6 fs ds es ts (HandSHeadRun.getT s)
theorem ob_eq (s : PySem.W.SharedT) : ob s = hk.obs s.abs := obsTG_eq (HandSHeadRun.getT_eq s)
theorem run (w : World) : HandSHeadRun.RunEqI R qv hk ob 20000 loose w := by
  unfold HandSHeadRun.RunEqI
  kernel_rfl
/-- what the walk asks of the top -/
structure Tx (P : Program) (K : PySem.W.Frag) (mg : Str → Option Value) : Prop where
  G_is_integer : mg "is_integer" = some (.ref (gA "is_integer" K))
  G_lowest_of : mg "lowest_of" = some (.ref (gA "lowest_of" K))
  G_told_lowest : mg "told_lowest" = some (.ref (gA "told_lowest" K))
  G_ratio_from : mg "ratio_from" = some (.ref (gA "ratio_from" K))
  G_is_ratio : mg "is_ratio" = some (.ref (gA "is_ratio" K))
  G_require_ratio : mg "require_ratio" = some (.ref (gA "require_ratio" K))
  G_w_urn : mg "_law_urn" = some (.ref (gA "_law_urn" K))
  G_w_drawn : mg "_law_drawn" = some (.ref (gA "_law_drawn" K))
  G_w_one_of : mg "_law_one_of" = some (.ref (gA "_law_one_of" K))
  G_w_divisor : mg "_law_divisor" = some (.ref (gA "_law_divisor" K))
  G_w_lowest : mg "_law_lowest" = some (.ref (gA "_law_lowest" K))
  G_w_power : mg "_law_power" = some (.ref (gA "_law_power" K))
  G_w_whole : mg "_law_whole" = some (.ref (gA "_law_whole" K))
  G_w_text : mg "_law_text" = some (.ref (gA "_law_text" K))
  G_w_is_shown : mg "_law_is_shown" = some (.ref (gA "_law_is_shown" K))
  G_w_refused : mg "_law_refused" = some (.ref (gA "_law_refused" K))
  G_w_is_kept : mg "_law_is_kept" = some (.ref (gA "_law_is_kept" K))
  G_w_order_right : mg "_law_order_right" = some (.ref (gA "_law_order_right" K))
  G_w_right : mg "_law_right" = some (.ref (gA "_law_right" K))
  G_law : mg "law" = some (.ref (gA "law" K))
  G_WorthError : mg "WorthError" = some (.ref (gA "WorthError" K))
  G_InvalidRatio : mg "InvalidRatio" = some (.ref (gA "InvalidRatio" K))
  G_InvalidNumber : mg "InvalidNumber" = some (.ref (gA "InvalidNumber" K))
  G_TooMany : mg "TooMany" = some (.ref (gA "TooMany" K))
  G_Lowest : mg "Lowest" = some (.ref (gA "Lowest" K))
  G_Ratio : mg "Ratio" = some (.ref (gA "Ratio" K))
  N_abs : mg "abs" = none
  N_bool : mg "bool" = none
  N_int : mg "int" = none
  N_isinstance : mg "isinstance" = none
  N_len : mg "len" = none
  N_max : mg "max" = none
  N_min : mg "min" = none
  N_range : mg "range" = none
  N_str : mg "str" = none
  N_NotImplemented : mg "NotImplemented" = none
  B_gcd : mg "gcd" = some (.builtin "math.gcd")
  I_GREAT : ∃ t, mg "GREAT" = some (.int (10 ^ 60) t)
  I_MAX_DIGITS : ∃ t, mg "MAX_DIGITS" = some (.int (2000) t)
  I_FIRST_TOO_GREAT : ∃ t, mg "FIRST_TOO_GREAT" = some (.int ((10 ^ 50) ^ 40) t)
  C_Lowest : Sl2 K (gA "Lowest" K) "own_bottom" "own_top" (mA "Lowest" "__init__" K)
  C_Ratio : Sl2 K (gA "Ratio" K) "own_bottom" "own_top" (mA "Ratio" "__init__" K)
  K_int_Lowest : PySem.W.kitOne K (.type "int") (.ref (gA "Lowest" K)) = some false
  K_str_Lowest : PySem.W.kitOne K (.type "str") (.ref (gA "Lowest" K)) = some false
  K_bool_Lowest : PySem.W.kitOne K (.type "bool") (.ref (gA "Lowest" K)) = some false
  K_NoneType_Lowest : PySem.W.kitOne K (.type "NoneType") (.ref (gA "Lowest" K)) = some false
  K_tuple_Lowest : PySem.W.kitOne K (.type "tuple") (.ref (gA "Lowest" K)) = some false
  K_list_Lowest : PySem.W.kitOne K (.type "list") (.ref (gA "Lowest" K)) = some false
  K_dict_Lowest : PySem.W.kitOne K (.type "dict") (.ref (gA "Lowest" K)) = some false
  K_Lowest_Lowest : PySem.W.kitOne K (.ref (gA "Lowest" K)) (.ref (gA "Lowest" K)) = some true
  K_Ratio_Lowest : PySem.W.kitOne K (.ref (gA "Ratio" K)) (.ref (gA "Lowest" K)) = some false
  K_int_Ratio : PySem.W.kitOne K (.type "int") (.ref (gA "Ratio" K)) = some false
  K_str_Ratio : PySem.W.kitOne K (.type "str") (.ref (gA "Ratio" K)) = some false
  K_bool_Ratio : PySem.W.kitOne K (.type "bool") (.ref (gA "Ratio" K)) = some false
  K_NoneType_Ratio : PySem.W.kitOne K (.type "NoneType") (.ref (gA "Ratio" K)) = some false
  K_tuple_Ratio : PySem.W.kitOne K (.type "tuple") (.ref (gA "Ratio" K)) = some false
  K_list_Ratio : PySem.W.kitOne K (.type "list") (.ref (gA "Ratio" K)) = some false
  K_dict_Ratio : PySem.W.kitOne K (.type "dict") (.ref (gA "Ratio" K)) = some false
  K_Lowest_Ratio : PySem.W.kitOne K (.ref (gA "Lowest" K)) (.ref (gA "Ratio" K)) = some false
  K_Ratio_Ratio : PySem.W.kitOne K (.ref (gA "Ratio" K)) (.ref (gA "Ratio" K)) = some true
  P_Ratio_top : PropM K (gA "Ratio" K) "top" (rA "property" "Ratio" "top" K)
  P_Ratio_bottom : PropM K (gA "Ratio" K) "bottom" (rA "property" "Ratio" "bottom" K)
  O_Ratio_over : OwnM K (gA "Ratio" K) "over" (mA "Ratio" "over" K)
  O_Ratio_is_less : OwnM K (gA "Ratio" K) "is_less" (mA "Ratio" "is_less" K)
  O_Ratio___add__ : OwnM K (gA "Ratio" K) "__add__" (mA "Ratio" "__add__" K)
  O_Ratio___sub__ : OwnM K (gA "Ratio" K) "__sub__" (mA "Ratio" "__sub__" K)
  O_Ratio___mul__ : OwnM K (gA "Ratio" K) "__mul__" (mA "Ratio" "__mul__" K)
  O_Ratio___neg__ : OwnM K (gA "Ratio" K) "__neg__" (mA "Ratio" "__neg__" K)
  O_Ratio___abs__ : OwnM K (gA "Ratio" K) "__abs__" (mA "Ratio" "__abs__" K)
  O_Ratio___bool__ : OwnM K (gA "Ratio" K) "__bool__" (mA "Ratio" "__bool__" K)
  O_Ratio___eq__ : OwnM K (gA "Ratio" K) "__eq__" (mA "Ratio" "__eq__" K)
  O_Ratio___str__ : OwnM K (gA "Ratio" K) "__str__" (mA "Ratio" "__str__" K)
  Z_digits : Dig K
  Q_Ratio___ne__ : PySem.W.findIn K (.ref (gA "Ratio" K)) "__ne__" = some (some (.builtin "object.__ne__"))
  K_Lowest_bool : PySem.W.kitOne K (.ref (gA "Lowest" K)) (.type "bool") = some false
  K_Lowest_int : PySem.W.kitOne K (.ref (gA "Lowest" K)) (.type "int") = some false
  K_Ratio_bool : PySem.W.kitOne K (.ref (gA "Ratio" K)) (.type "bool") = some false
  K_Ratio_int : PySem.W.kitOne K (.ref (gA "Ratio" K)) (.type "int") = some false
  N_super : mg "super" = none
  X_InvalidNumber : ∀ w : World, SupX P w K mg (gA "InvalidNumber" K) "given"
  F_InvalidNumber : XfC K (gA "InvalidNumber" K)
  L_InvalidNumber : PySem.W.findIn K (.ref (gA "InvalidNumber" K)) "given" = some none
  X_TooMany : ∀ w : World, SupX P w K mg (gA "TooMany" K) "limit"
  F_TooMany : XfC K (gA "TooMany" K)
  L_TooMany : PySem.W.findIn K (.ref (gA "TooMany" K)) "limit" = some none
  E_InvalidRatio : OwnX K (gA "InvalidRatio" K)
  M_InvalidNumber_InvalidNumber : PySem.W.exmOne K (.ref (gA "InvalidNumber" K)) (.ref (gA "InvalidNumber" K)) = some true
  M_InvalidNumber_InvalidRatio : PySem.W.exmOne K (.ref (gA "InvalidNumber" K)) (.ref (gA "InvalidRatio" K)) = some false
  M_TooMany_InvalidNumber : PySem.W.exmOne K (.ref (gA "TooMany" K)) (.ref (gA "InvalidNumber" K)) = some false
  M_TooMany_InvalidRatio : PySem.W.exmOne K (.ref (gA "TooMany" K)) (.ref (gA "InvalidRatio" K)) = some false
  M_InvalidRatio_InvalidNumber : PySem.W.exmOne K (.ref (gA "InvalidRatio" K)) (.ref (gA "InvalidNumber" K)) = some false
  M_InvalidRatio_InvalidRatio : PySem.W.exmOne K (.ref (gA "InvalidRatio" K)) (.ref (gA "InvalidRatio" K)) = some true
  D_is_integer : ∃ fd, FunD K "is_integer" "is_integer" (defArgs s_is_integer) (defBody s_is_integer) (defScope s_is_integer) [] [] (gA "is_integer" K) fd
  D_Lowest___init__ : ∃ fd, FunD K "__init__" "Lowest.__init__" (defArgs s_Lowest___init__) (defBody s_Lowest___init__) (defScope s_Lowest___init__) [] [] (mA "Lowest" "__init__" K) fd
  D_lowest_of : ∃ fd, FunD K "lowest_of" "lowest_of" (defArgs s_lowest_of) (defBody s_lowest_of) (defScope s_lowest_of) [] [] (gA "lowest_of" K) fd
  D_Ratio___init__ : ∃ fd, FunD K "__init__" "Ratio.__init__" (defArgs s_Ratio___init__) (defBody s_Ratio___init__) (defScope s_Ratio___init__) (d_Ratio___init__.dvs K) [] (mA "Ratio" "__init__" K) fd
  D_Ratio_top : ∃ fd, FunD K "top" "Ratio.top" (defArgs s_Ratio_top) (defBody s_Ratio_top) (defScope s_Ratio_top) [] [] (rA "property" "Ratio" "top" K) fd
  D_Ratio_bottom : ∃ fd, FunD K "bottom" "Ratio.bottom" (defArgs s_Ratio_bottom) (defBody s_Ratio_bottom) (defScope s_Ratio_bottom) [] [] (rA "property" "Ratio" "bottom" K) fd
  D_Ratio_is_less : ∃ fd, FunD K "is_less" "Ratio.is_less" (defArgs s_Ratio_is_less) (defBody s_Ratio_is_less) (defScope s_Ratio_is_less) [] [] (mA "Ratio" "is_less" K) fd
  D_Ratio___add__ : ∃ fd, FunD K "__add__" "Ratio.__add__" (defArgs s_Ratio___add__) (defBody s_Ratio___add__) (defScope s_Ratio___add__) [] [] (mA "Ratio" "__add__" K) fd
  D_Ratio___sub__ : ∃ fd, FunD K "__sub__" "Ratio.__sub__" (defArgs s_Ratio___sub__) (defBody s_Ratio___sub__) (defScope s_Ratio___sub__) [] [] (mA "Ratio" "__sub__" K) fd
  D_Ratio___mul__ : ∃ fd, FunD K "__mul__" "Ratio.__mul__" (defArgs s_Ratio___mul__) (defBody s_Ratio___mul__) (defScope s_Ratio___mul__) [] [] (mA "Ratio" "__mul__" K) fd
  D_Ratio___neg__ : ∃ fd, FunD K "__neg__" "Ratio.__neg__" (defArgs s_Ratio___neg__) (defBody s_Ratio___neg__) (defScope s_Ratio___neg__) [] [] (mA "Ratio" "__neg__" K) fd
  D_Ratio___abs__ : ∃ fd, FunD K "__abs__" "Ratio.__abs__" (defArgs s_Ratio___abs__) (defBody s_Ratio___abs__) (defScope s_Ratio___abs__) [] [] (mA "Ratio" "__abs__" K) fd
  D_Ratio___bool__ : ∃ fd, FunD K "__bool__" "Ratio.__bool__" (defArgs s_Ratio___bool__) (defBody s_Ratio___bool__) (defScope s_Ratio___bool__) [] [] (mA "Ratio" "__bool__" K) fd
  D_Ratio___eq__ : ∃ fd, FunD K "__eq__" "Ratio.__eq__" (defArgs s_Ratio___eq__) (defBody s_Ratio___eq__) (defScope s_Ratio___eq__) [] [] (mA "Ratio" "__eq__" K) fd
  D_Ratio___str__ : ∃ fd, FunD K "__str__" "Ratio.__str__" (defArgs s_Ratio___str__) (defBody s_Ratio___str__) (defScope s_Ratio___str__) [] [] (mA "Ratio" "__str__" K) fd
  D_told_lowest : ∃ fd, FunD K "told_lowest" "told_lowest" (defArgs s_told_lowest) (defBody s_told_lowest) (defScope s_told_lowest) [] [] (gA "told_lowest" K) fd
  D_ratio_from : ∃ fd, FunD K "ratio_from" "ratio_from" (defArgs s_ratio_from) (defBody s_ratio_from) (defScope s_ratio_from) [] [] (gA "ratio_from" K) fd
  D_is_ratio : ∃ fd, FunD K "is_ratio" "is_ratio" (defArgs s_is_ratio) (defBody s_is_ratio) (defScope s_is_ratio) [] [] (gA "is_ratio" K) fd
  D_require_ratio : ∃ fd, FunD K "require_ratio" "require_ratio" (defArgs s_require_ratio) (defBody s_require_ratio) (defScope s_require_ratio) [] [] (gA "require_ratio" K) fd
  D_w_urn : ∃ fd, FunD K "_law_urn" "_law_urn" (defArgs s_w_urn) (defBody s_w_urn) (defScope s_w_urn) [] [] (gA "_law_urn" K) fd
  D_w_drawn : ∃ fd, FunD K "_law_drawn" "_law_drawn" (defArgs s_w_drawn) (defBody s_w_drawn) (defScope s_w_drawn) [] [] (gA "_law_drawn" K) fd
  D_w_one_of : ∃ fd, FunD K "_law_one_of" "_law_one_of" (defArgs s_w_one_of) (defBody s_w_one_of) (defScope s_w_one_of) [] [] (gA "_law_one_of" K) fd
  D_w_divisor : ∃ fd, FunD K "_law_divisor" "_law_divisor" (defArgs s_w_divisor) (defBody s_w_divisor) (defScope s_w_divisor) [] [] (gA "_law_divisor" K) fd
  D_w_lowest : ∃ fd, FunD K "_law_lowest" "_law_lowest" (defArgs s_w_lowest) (defBody s_w_lowest) (defScope s_w_lowest) [] [] (gA "_law_lowest" K) fd
  D_w_power : ∃ fd, FunD K "_law_power" "_law_power" (defArgs s_w_power) (defBody s_w_power) (defScope s_w_power) [] [] (gA "_law_power" K) fd
  D_w_whole : ∃ fd, FunD K "_law_whole" "_law_whole" (defArgs s_w_whole) (defBody s_w_whole) (defScope s_w_whole) [] [] (gA "_law_whole" K) fd
  D_w_text : ∃ fd, FunD K "_law_text" "_law_text" (defArgs s_w_text) (defBody s_w_text) (defScope s_w_text) [] [] (gA "_law_text" K) fd
  D_w_is_shown : ∃ fd, FunD K "_law_is_shown" "_law_is_shown" (defArgs s_w_is_shown) (defBody s_w_is_shown) (defScope s_w_is_shown) [] [] (gA "_law_is_shown" K) fd
  D_w_refused : ∃ fd, FunD K "_law_refused" "_law_refused" (defArgs s_w_refused) (defBody s_w_refused) (defScope s_w_refused) [] [] (gA "_law_refused" K) fd
  D_w_is_kept : ∃ fd, FunD K "_law_is_kept" "_law_is_kept" (defArgs s_w_is_kept) (defBody s_w_is_kept) (defScope s_w_is_kept) [] [] (gA "_law_is_kept" K) fd
  D_w_order_right : ∃ fd, FunD K "_law_order_right" "_law_order_right" (defArgs s_w_order_right) (defBody s_w_order_right) (defScope s_w_order_right) [] [] (gA "_law_order_right" K) fd
  D_w_right : ∃ fd, FunD K "_law_right" "_law_right" (defArgs s_w_right) (defBody s_w_right) (defScope s_w_right) [] [] (gA "_law_right" K) fd
  D_law : ∃ fd, FunD K "law" "law" (defArgs s_law) (defBody s_law) (defScope s_law) [] [] (gA "law" K) fd
theorem tx_of {P : Program} {K : PySem.W.Frag} {h : Heap} {mg : Str → Option Value} (hfile : ((P.main.file : Str) == ("/claim/cut.py" : Str)) = true) (htop : (P.main.scope.names.lookup ("super" : Str)).isSome = false) (X : K.In h) (G : h.Ns mainGlobals mg) (cy : SaysY fs ds es K) : Tx P K mg := by
  have c := cy.x
  exact {
  G_is_integer := fGlo_ok X G (c.fact 0)
  G_lowest_of := fGlo_ok X G (c.fact 1)
  G_told_lowest := fGlo_ok X G (c.fact 2)
  G_ratio_from := fGlo_ok X G (c.fact 3)
  G_is_ratio := fGlo_ok X G (c.fact 4)
  G_require_ratio := fGlo_ok X G (c.fact 5)
  G_w_urn := fGlo_ok X G (c.fact 6)
  G_w_drawn := fGlo_ok X G (c.fact 7)
  G_w_one_of := fGlo_ok X G (c.fact 8)
  G_w_divisor := fGlo_ok X G (c.fact 9)
  G_w_lowest := fGlo_ok X G (c.fact 10)
  G_w_power := fGlo_ok X G (c.fact 11)
  G_w_whole := fGlo_ok X G (c.fact 12)
  G_w_text := fGlo_ok X G (c.fact 13)
  G_w_is_shown := fGlo_ok X G (c.fact 14)
  G_w_refused := fGlo_ok X G (c.fact 15)
  G_w_is_kept := fGlo_ok X G (c.fact 16)
  G_w_order_right := fGlo_ok X G (c.fact 17)
  G_w_right := fGlo_ok X G (c.fact 18)
  G_law := fGlo_ok X G (c.fact 19)
  G_WorthError := fGlo_ok X G (c.fact 20)
  G_InvalidRatio := fGlo_ok X G (c.fact 21)
  G_InvalidNumber := fGlo_ok X G (c.fact 22)
  G_TooMany := fGlo_ok X G (c.fact 23)
  G_Lowest := fGlo_ok X G (c.fact 24)
  G_Ratio := fGlo_ok X G (c.fact 25)
  N_abs := fFree_ok X G (c.fact 26)
  N_bool := fFree_ok X G (c.fact 27)
  N_int := fFree_ok X G (c.fact 28)
  N_isinstance := fFree_ok X G (c.fact 29)
  N_len := fFree_ok X G (c.fact 30)
  N_max := fFree_ok X G (c.fact 31)
  N_min := fFree_ok X G (c.fact 32)
  N_range := fFree_ok X G (c.fact 33)
  N_str := fFree_ok X G (c.fact 34)
  N_NotImplemented := fFree_ok X G (c.fact 35)
  B_gcd := fBlt_ok X G (c.fact 36)
  I_GREAT := fInt_ok X G (c.fact 37)
  I_MAX_DIGITS := fInt_ok X G (c.fact 38)
  I_FIRST_TOO_GREAT := fInt_ok X G (c.fact 39)
  C_Lowest := fSl2_ok (c.fact 40)
  C_Ratio := fSl2_ok (c.fact 41)
  K_int_Lowest := fKit_ok (t := fun _ => .type "int") (c.fact 42)
  K_str_Lowest := fKit_ok (t := fun _ => .type "str") (c.fact 43)
  K_bool_Lowest := fKit_ok (t := fun _ => .type "bool") (c.fact 44)
  K_NoneType_Lowest := fKit_ok (t := fun _ => .type "NoneType") (c.fact 45)
  K_tuple_Lowest := fKit_ok (t := fun _ => .type "tuple") (c.fact 46)
  K_list_Lowest := fKit_ok (t := fun _ => .type "list") (c.fact 47)
  K_dict_Lowest := fKit_ok (t := fun _ => .type "dict") (c.fact 48)
  K_Lowest_Lowest := fKit_ok (t := fun K => .ref (gA "Lowest" K)) (c.fact 49)
  K_Ratio_Lowest := fKit_ok (t := fun K => .ref (gA "Ratio" K)) (c.fact 50)
  K_int_Ratio := fKit_ok (t := fun _ => .type "int") (c.fact 51)
  K_str_Ratio := fKit_ok (t := fun _ => .type "str") (c.fact 52)
  K_bool_Ratio := fKit_ok (t := fun _ => .type "bool") (c.fact 53)
  K_NoneType_Ratio := fKit_ok (t := fun _ => .type "NoneType") (c.fact 54)
  K_tuple_Ratio := fKit_ok (t := fun _ => .type "tuple") (c.fact 55)
  K_list_Ratio := fKit_ok (t := fun _ => .type "list") (c.fact 56)
  K_dict_Ratio := fKit_ok (t := fun _ => .type "dict") (c.fact 57)
  K_Lowest_Ratio := fKit_ok (t := fun K => .ref (gA "Lowest" K)) (c.fact 58)
  K_Ratio_Ratio := fKit_ok (t := fun K => .ref (gA "Ratio" K)) (c.fact 59)
  P_Ratio_top := fProp_ok (c.fact 60)
  P_Ratio_bottom := fProp_ok (c.fact 61)
  O_Ratio_over := fOwn_ok (c.fact 62)
  O_Ratio_is_less := fOwn_ok (c.fact 63)
  O_Ratio___add__ := fOwn_ok (c.fact 64)
  O_Ratio___sub__ := fOwn_ok (c.fact 65)
  O_Ratio___mul__ := fOwn_ok (c.fact 66)
  O_Ratio___neg__ := fOwn_ok (c.fact 67)
  O_Ratio___abs__ := fOwn_ok (c.fact 68)
  O_Ratio___bool__ := fOwn_ok (c.fact 69)
  O_Ratio___eq__ := fOwn_ok (c.fact 70)
  O_Ratio___str__ := fOwn_ok (c.fact 71)
  Z_digits := fDig_ok (c.fact 72)
  Q_Ratio___ne__ := fFindB_ok (c.fact 73)
  K_Lowest_bool := fKitB_ok (c.fact 74)
  K_Lowest_int := fKitB_ok (c.fact 75)
  K_Ratio_bool := fKitB_ok (c.fact 76)
  K_Ratio_int := fKitB_ok (c.fact 77)
  N_super := fFree_ok X G (c.fact 78)
  X_InvalidNumber := fun w => fSup_ok (pre := (fun _ => [])) (x := "InvalidNumber") (f := "given") (a := "given") (sl := "self") (qual := "InvalidNumber.__init__") (body := defBody s_InvalidNumber___init__) (scope := defScope s_InvalidNumber___init__) (params := defArgs s_InvalidNumber___init__) bas_IndexError (c.fact 79) (cy.ex 0) hfile htop (fFree_ok X G (c.fact 78)) (fFree_ok X G (c.fact 34)) (by rfl) (by rfl) (by rfl)
    (fun _ _ _ _ _ _ _ _ _ _ => by rfl) (by decide) (by decide) (by decide) (by rfl) (by rfl) (by rfl) (by rfl) (by rfl) (by rfl) (by decide) (by rfl) (by rfl) (fun _ _ _ _ => ⟨_, by rfl⟩) (fun _ _ _ _ => by rfl) (fun _ _ _ _ => by rfl) (fun _ _ _ _ => by rfl) (fun _ _ _ _ => by rfl)
  F_InvalidNumber := fXf_ok (c.fact 80)
  L_InvalidNumber := fLack_ok (c.fact 81)
  X_TooMany := fun w => fSup_ok (pre := (fun _ => [])) (x := "TooMany") (f := "limit") (a := "limit") (sl := "self") (qual := "TooMany.__init__") (body := defBody s_TooMany___init__) (scope := defScope s_TooMany___init__) (params := defArgs s_TooMany___init__) bas_OverflowError (c.fact 82) (cy.ex 1) hfile htop (fFree_ok X G (c.fact 78)) (fFree_ok X G (c.fact 34)) (by rfl) (by rfl) (by rfl)
    (fun _ _ _ _ _ _ _ _ _ _ => by rfl) (by decide) (by decide) (by decide) (by rfl) (by rfl) (by rfl) (by rfl) (by rfl) (by rfl) (by decide) (by rfl) (by rfl) (fun _ _ _ _ => ⟨_, by rfl⟩) (fun _ _ _ _ => by rfl) (fun _ _ _ _ => by rfl) (fun _ _ _ _ => by rfl) (fun _ _ _ _ => by rfl)
  F_TooMany := fXf_ok (c.fact 83)
  L_TooMany := fLack_ok (c.fact 84)
  E_InvalidRatio := fOwnV_ok (c.fact 85)
  M_InvalidNumber_InvalidNumber := fExm_ok (cls := fun K => .ref (gA "InvalidNumber" K)) (c := fun K => .ref (gA "InvalidNumber" K)) (c.fact 86)
  M_InvalidNumber_InvalidRatio := fExm_ok (cls := fun K => .ref (gA "InvalidNumber" K)) (c := fun K => .ref (gA "InvalidRatio" K)) (c.fact 87)
  M_TooMany_InvalidNumber := fExm_ok (cls := fun K => .ref (gA "TooMany" K)) (c := fun K => .ref (gA "InvalidNumber" K)) (c.fact 88)
  M_TooMany_InvalidRatio := fExm_ok (cls := fun K => .ref (gA "TooMany" K)) (c := fun K => .ref (gA "InvalidRatio" K)) (c.fact 89)
  M_InvalidRatio_InvalidNumber := fExm_ok (cls := fun K => .ref (gA "InvalidRatio" K)) (c := fun K => .ref (gA "InvalidNumber" K)) (c.fact 90)
  M_InvalidRatio_InvalidRatio := fExm_ok (cls := fun K => .ref (gA "InvalidRatio" K)) (c := fun K => .ref (gA "InvalidRatio" K)) (c.fact 91)
  D_is_integer := c.def_ 0 (d := d_is_integer)
  D_Lowest___init__ := c.def_ 1 (d := d_Lowest___init__)
  D_lowest_of := c.def_ 2 (d := d_lowest_of)
  D_Ratio___init__ := c.def_ 3 (d := d_Ratio___init__)
  D_Ratio_top := c.def_ 4 (d := d_Ratio_top)
  D_Ratio_bottom := c.def_ 5 (d := d_Ratio_bottom)
  D_Ratio_is_less := c.def_ 6 (d := d_Ratio_is_less)
  D_Ratio___add__ := c.def_ 7 (d := d_Ratio___add__)
  D_Ratio___sub__ := c.def_ 8 (d := d_Ratio___sub__)
  D_Ratio___mul__ := c.def_ 9 (d := d_Ratio___mul__)
  D_Ratio___neg__ := c.def_ 10 (d := d_Ratio___neg__)
  D_Ratio___abs__ := c.def_ 11 (d := d_Ratio___abs__)
  D_Ratio___bool__ := c.def_ 12 (d := d_Ratio___bool__)
  D_Ratio___eq__ := c.def_ 13 (d := d_Ratio___eq__)
  D_Ratio___str__ := c.def_ 14 (d := d_Ratio___str__)
  D_told_lowest := c.def_ 15 (d := d_told_lowest)
  D_ratio_from := c.def_ 16 (d := d_ratio_from)
  D_is_ratio := c.def_ 17 (d := d_is_ratio)
  D_require_ratio := c.def_ 18 (d := d_require_ratio)
  D_w_urn := c.def_ 19 (d := d_w_urn)
  D_w_drawn := c.def_ 20 (d := d_w_drawn)
  D_w_one_of := c.def_ 21 (d := d_w_one_of)
  D_w_divisor := c.def_ 22 (d := d_w_divisor)
  D_w_lowest := c.def_ 23 (d := d_w_lowest)
  D_w_power := c.def_ 24 (d := d_w_power)
  D_w_whole := c.def_ 25 (d := d_w_whole)
  D_w_text := c.def_ 26 (d := d_w_text)
  D_w_is_shown := c.def_ 27 (d := d_w_is_shown)
  D_w_refused := c.def_ 28 (d := d_w_refused)
  D_w_is_kept := c.def_ 29 (d := d_w_is_kept)
  D_w_order_right := c.def_ 30 (d := d_w_order_right)
  D_w_right := c.def_ 31 (d := d_w_right)
  D_law := c.def_ 32 (d := d_law)
  }
end LW
end
section
set_option Elab.async false
set_option linter.all false
set_option maxRecDepth 100000
set_option maxHeartbeats 4000000
namespace LW
open PySem PySem.Spec PyProof.Rows L2 Wo
local macro_rules | `(tactic| walk_at "lf") => `(tactic| first | assumption | (refine Up.up (by assumption) ?_; walk_at "lf") | (refine RAll.up (by assumption) ?_; walk_at "lf") | (refine Ob2.up (by assumption) ?_; walk_at "lf"))
local macro_rules | `(tactic| walk_at "side") => `(tactic| first | (unfold CMul; omega) | (unfold CDiv; omega) | (unfold CDivN; omega) | (unfold CPow; omega) | (show (0 : Int) < _; omega) | decide)
local macro_rules | `(tactic| walk_at "rd1") => `(tactic| first
  | ((with_reducible refine rd_var (v := ?v) ?h ?_); (case h => rfl))
  | with_reducible refine rd_c ?_
  | with_reducible refine rd_op ?_
  | with_reducible refine rd_I0 ?_
  | with_reducible refine rd_I ?_ ?_
  | with_reducible refine rd_U ?_
  | with_reducible refine rd_eqI ?_
  | with_reducible refine rd_neI ?_
  | with_reducible refine rd_eqS ?_
  | with_reducible refine rd_neS ?_
  | with_reducible refine rd_un ?_
  | with_reducible refine rd_test ?_
  | with_reducible refine rd_tB ?_
  | with_reducible refine rd_exB ?_
  | with_reducible refine rd_cons ?_
  | with_reducible refine rd_nil ?_
  | with_reducible refine rd_call ?_
  | with_reducible refine rd_cb ?_
  | with_reducible refine rd_seq ?_
  | with_reducible refine rd_asg ?_
  | with_reducible refine rd_gname ?_
  | with_reducible refine rd_ret ?_
  | with_reducible refine rd_ifS ?_
  | with_reducible refine rd_next ?_
  | with_reducible refine rd_drop ?_
  | with_reducible refine rd_if ?_
  | with_reducible refine rd_not ?_
  | with_reducible refine rd_and ?_
  | with_reducible refine rd_or ?_
  | with_reducible refine rd_andV ?_
  | with_reducible refine rd_orV ?_
  | with_reducible refine rd_notV ?_
  | with_reducible refine rd_chain ?_
  | with_reducible refine rd_slot ?_
  | with_reducible refine rd_sst ?_
  | with_reducible refine rd_par ?_
  | with_reducible refine rd_ex2 ?_
  | with_reducible refine rd_gcd ?_
  | with_reducible refine rd_prop ?_
  | with_reducible refine rd_sub ?_
  | with_reducible refine rd_lcm ?_ ?_
  | with_reducible refine rd_forL ?_
  | with_reducible refine rd_forT ?_
  | with_reducible refine rd_forR1 ?_
  | with_reducible refine rd_forZ ?_
  | with_reducible refine rd_lcL ?_
  | with_reducible refine rd_lcT ?_
  | with_reducible refine rd_lcR1 ?_
  | with_reducible refine rd_lcR2 ?_
  | with_reducible refine rd_lcZ ?_
  | with_reducible refine rd_lc2TT ?_
  | with_reducible refine rd_abs ?_
  | with_reducible refine rd_int ?_
  | with_reducible refine rd_intB ?_
  | with_reducible refine rd_max2 ?_
  | with_reducible refine rd_min2 ?_
  | with_reducible refine rd_tup ?_
  | with_reducible refine rd_lst ?_
  | with_reducible refine ite_T ?_
  | with_reducible refine ite_n ?_
  | with_reducible refine ite_y ?_
  | with_reducible refine ite_F ?_
  | with_reducible refine rd_retN ?_)
local macro_rules | `(tactic| walk_at "rd") => `(tactic| repeat walk_at "rd1")
local macro_rules | `(tactic| walk_at "sd") => `(tactic| first | exact Or.inl ⟨by decide, by decide⟩ | exact Or.inr ⟨by decide, by decide⟩ | (show (0 : Int) < _; decide +kernel) | exact ⟨by decide, by decide, by decide +kernel⟩ | exact ⟨by decide, by decide +kernel⟩)
section
variable {P : Program} {w : World} {K : PySem.W.Frag} {mg : Str → Option Value} {base : Heap}
def sp_Lowest___init__ (K : PySem.W.Frag) : Sp := sp_init2 (gA "Lowest" K)
abbrev n_Lowest___init__ : List Str := ["self", "top", "bottom"]
theorem sc_Lowest___init__ : FnScope n_Lowest___init__ ["self", "top", "bottom"] (defScope s_Lowest___init__) := ⟨rfl, rfl, rfl, by decide +kernel, rfl, by decide +kernel, by decide +kernel⟩
theorem cal_Lowest___init__ (T : Tx P K mg) : FnR P w K mg base (CXW P w) 1 (mA "Lowest" "__init__" K) (sp_Lowest___init__ K) := by
  refine fnR_of (k := 0) T.D_Lowest___init__ sc_Lowest___init__ (fun _ _ _ _ _ _ us hl => match us, hl with | [_, _, _], _ => rfl) (fun vs H Q E h => ?_) (fun cdv A outer s H vs Q E hr h => ?_)
  · obtain ⟨v0, v1, v2, rfl, _⟩ := h
    rfl
  obtain ⟨v0, v1, v2, rfl, h⟩ := h
  refine ⟨_, pss_cons (SlX.ps_sl (pv 0) (pv 1))
      (pss_one (SlX.ps_sl (pv 0) (pv 2))), ?_⟩
  obtain ⟨y, dx, rfl, hne, hy, k⟩ := h
  obtain ⟨p0, q0⟩ := T.C_Lowest.s0
  obtain ⟨p1, q1⟩ := T.C_Lowest.s1
  walk_at "rd"
  refine ⟨y, _, dx, _, [], _, rfl, .inl ⟨hy, rfl⟩, T.C_Lowest.cl, q1, ?_⟩
  walk_at "rd"
  refine ⟨y, _, dx, _, _, _, rfl, SlX.slH_slt hne, T.C_Lowest.cl, q0, ?_⟩
  rw [SlX.slH_twice hne]
  exact k _ (SlX.slH_slt hne) fun c o e h1 h2 => by rw [SlX.slH_ne h1 h2]; exact e
def sp_Lowest (K : PySem.W.Frag) : Sp := sp2 fun a b H Q _ => ∀ v H', Same H H' → Ob2 (gA "Lowest" K) H' v b a → Q v H'
theorem ctor_Lowest (T : Tx P K mg) : Ctor P w K mg base 1 "Lowest" (sp_Lowest K) := ctor2 T.G_Lowest T.C_Lowest (cal_Lowest___init__ T)
/-- the lowest terms of t / b -/
def sp_lowest_of (K : PySem.W.Frag) : Sp := sp2 fun x y H Q _ => ∃ t b : Int, x = .int t ∧ y = .int b ∧ b ≠ 0 ∧ t.natAbs < 2 ^ 13500 ∧ b.natAbs < 2 ^ 13500 ∧ ∀ v H', Same H H' → RQ (gA "Lowest" K) H' v (Rat.divInt t b) → Q v H'
abbrev n_lowest_of : List Str := ["top", "bottom", "shared"]
theorem sc_lowest_of : FnScope n_lowest_of ["top", "bottom"] (defScope s_lowest_of) := ⟨rfl, rfl, rfl, by decide +kernel, rfl, by decide +kernel, by decide +kernel⟩
theorem cal_lowest_of (T : Tx P K mg) : Cal P w K mg base 3 "lowest_of" (sp_lowest_of K) := by
  refine cal_of (k := 2) T.G_lowest_of T.D_lowest_of sc_lowest_of (fun _ _ _ _ _ _ us hl => match us, hl with | [_, _], _ => rfl) (fun vs H Q E h => ?_) (fun cdv A outer s H vs Q E hr h => ?_)
  · obtain ⟨v0, v1, rfl, _⟩ := h
    rfl
  obtain ⟨v0, v1, rfl, h⟩ := h
  refine ⟨_, pss_cons (ps_set (i := 2) sc_lowest_of.nd rfl (by first | exact Or.inl rfl | exact Or.inr rfl) (pe_callBfun cr_gcd (by rfl) T.B_gcd (pa_cons (pv 0) (pa_cons (pv 1) pa_nil))))
      (pss_cons (ps_if (pt_cmpR op_lt (pv 1) pe_int (nomark _))
        (pss_one (ps_set (i := 2) sc_lowest_of.nd rfl (by first | exact Or.inl rfl | exact Or.inr rfl) (pe_un un_neg (pv 2))))
        (pss_nil))
      (pss_one (ps_ret (pm (ctor_Lowest T) hr (pa_cons (pe_op op_fdivA (pv 0) (pv 2)) (pa_cons (pe_op op_fdivA (pv 1) (pv 2)) pa_nil)))))), ?_⟩
  obtain ⟨t, b, rfl, rfl, hb, ht, hs, k⟩ := h
  obtain ⟨g1, g2, g3⟩ := gcd_lt2 (t := t) hb hs
  walk_at "rd"
  refine ite_dec (fun hn => ?_) (fun hn => ?_)
  · walk_at "rd"
    · exact ⟨_, _, rfl, fun v H' e hv => k v H' e (by unfold RQ; rw [low_numN hn, low_denN hn]; exact hv)⟩
    · exact div_near (by omega) hs
    · exact div_near (by omega) ht
  · walk_at "rd"
    · exact ⟨_, _, rfl, fun v H' e hv => k v H' e (by unfold RQ; rw [low_num (by omega), low_den (by omega)]; exact hv)⟩
    · exact div_near g3 hs
    · exact div_near g3 ht
end
end LW
end
section
set_option Elab.async false
set_option linter.all false
set_option maxRecDepth 100000
set_option maxHeartbeats 4000000
set_option exponentiation.threshold 20000
namespace LW
open PySem PySem.Spec PyProof.Rows L2 Wo
local macro_rules | `(tactic| walk_at "lf") => `(tactic| first | assumption | (refine Up.up (by assumption) ?_; walk_at "lf") | (refine RAll.up (by assumption) ?_; walk_at "lf") | (refine Ob2.up (by assumption) ?_; walk_at "lf"))
local macro_rules | `(tactic| walk_at "side") => `(tactic| first | (unfold CMul; omega) | (unfold CDiv; omega) | (unfold CDivN; omega) | (unfold CPow; omega) | (show (0 : Int) < _; omega) | decide)
local macro_rules | `(tactic| walk_at "rd1") => `(tactic| first
  | ((with_reducible refine rd_var (v := ?v) ?h ?_); (case h => rfl))
  | with_reducible refine rd_c ?_
  | with_reducible refine rd_op ?_
  | with_reducible refine rd_I0 ?_
  | with_reducible refine rd_I ?_ ?_
  | with_reducible refine rd_U ?_
  | with_reducible refine rd_eqI ?_
  | with_reducible refine rd_neI ?_
  | with_reducible refine rd_eqS ?_
  | with_reducible refine rd_neS ?_
  | with_reducible refine rd_un ?_
  | with_reducible refine rd_test ?_
  | with_reducible refine rd_tB ?_
  | with_reducible refine rd_exB ?_
  | with_reducible refine rd_cons ?_
  | with_reducible refine rd_nil ?_
  | with_reducible refine rd_call ?_
  | with_reducible refine rd_cb ?_
  | with_reducible refine rd_seq ?_
  | with_reducible refine rd_asg ?_
  | with_reducible refine rd_gname ?_
  | with_reducible refine rd_ret ?_
  | with_reducible refine rd_ifS ?_
  | with_reducible refine rd_next ?_
  | with_reducible refine rd_drop ?_
  | with_reducible refine rd_if ?_
  | with_reducible refine rd_not ?_
  | with_reducible refine rd_and ?_
  | with_reducible refine rd_or ?_
  | with_reducible refine rd_andV ?_
  | with_reducible refine rd_orV ?_
  | with_reducible refine rd_notV ?_
  | with_reducible refine rd_chain ?_
  | with_reducible refine rd_slot ?_
  | with_reducible refine rd_sst ?_
  | with_reducible refine rd_par ?_
  | with_reducible refine rd_ex2 ?_
  | with_reducible refine rd_gcd ?_
  | with_reducible refine rd_prop ?_
  | with_reducible refine rd_sub ?_
  | with_reducible refine rd_lcm ?_ ?_
  | with_reducible refine rd_forL ?_
  | with_reducible refine rd_forT ?_
  | with_reducible refine rd_forR1 ?_
  | with_reducible refine rd_forZ ?_
  | with_reducible refine rd_lcL ?_
  | with_reducible refine rd_lcT ?_
  | with_reducible refine rd_lcR1 ?_
  | with_reducible refine rd_lcR2 ?_
  | with_reducible refine rd_lcZ ?_
  | with_reducible refine rd_lc2TT ?_
  | with_reducible refine rd_abs ?_
  | with_reducible refine rd_int ?_
  | with_reducible refine rd_intB ?_
  | with_reducible refine rd_max2 ?_
  | with_reducible refine rd_min2 ?_
  | with_reducible refine rd_tup ?_
  | with_reducible refine rd_lst ?_
  | with_reducible refine ite_T ?_
  | with_reducible refine ite_n ?_
  | with_reducible refine ite_y ?_
  | with_reducible refine ite_F ?_
  | with_reducible refine rd_retN ?_)
local macro_rules | `(tactic| walk_at "rd") => `(tactic| repeat walk_at "rd1")
local macro_rules | `(tactic| walk_at "sd") => `(tactic| first | exact Or.inl ⟨by decide, by decide⟩ | exact Or.inr ⟨by decide, by decide⟩ | (show (0 : Int) < _; decide +kernel) | exact ⟨by decide, by decide, by decide +kernel⟩ | exact ⟨by decide, by decide +kernel⟩)
section
variable {P : Program} {w : World} {K : PySem.W.Frag} {mg : Str → Option Value} {base : Heap}
set_option hygiene false in
local macro_rules | `(tactic| walk_at "rt") => `(tactic| first
  | walk_at "rd1"
  | with_reducible refine rd_sl ?_
  | with_reducible refine rd_noPart ?_
  | with_reducible refine rd_part ?_
  | with_reducible refine rd_exI ?_
  | with_reducible refine rd_inS ?_
  | ((with_reducible refine rd_aug (x := ?v) ?h ?_); (case h => rfl))
  | with_reducible refine rd_ipI ?_
  | with_reducible refine rd_callW ?_
  | with_reducible refine rd_cmethW ?_
  | with_reducible refine rd_fmtL ?_
  | (refine rd_lenS hz ?_; rw [tx_len]))
def shown (i : Int) : List Nat := (Str.ofString (toString i)).cps.toList
def line (t : Int) (b : Nat) : List Nat := shown t ++ if b = 1 then [] else 47 :: shown b
theorem rd_js {t : TE} {ts : List TE} {acc : Str} {σ : L2.St} {H : Hp} {Q : Str → Hp → Prop} (q : t σ H fun x H1 => ∃ y : Str, x = .str y ∧ (acc ++ y).length ≤ sizeLine ∧ tJs ts (acc ++ y) σ H1 Q) : tJs (t :: ts) acc σ H Q := q
theorem rd_js0 {acc : Str} {σ : L2.St} {H : Hp} {Q : Str → Hp → Prop} (q : Q acc H) : tJs [] acc σ H Q := q
def sp_Ratio___str__ (K : PySem.W.Frag) : Sp := sp1 fun x H Q E => ∃ (t : Int) (b : Nat), Ob2 (gA "Ratio" K) H x (.int (b : Nat)) (.int t) ∧ t.natAbs < 10 ^ 4300 ∧ b < 10 ^ 4300 ∧ (line t b).length ≤ 10 ^ 5 ∧ Q (.str (tx (line t b))) H
abbrev n_Ratio___str__ : List Str := ["self"]
theorem sc_Ratio___str__ : FnScope n_Ratio___str__ ["self"] (defScope s_Ratio___str__) := ⟨rfl, rfl, rfl, by decide +kernel, rfl, by decide +kernel, by decide +kernel⟩
theorem cal_Ratio___str__ (T : Tx P K mg) : FnR P w K mg base (CXW P w) 1 (mA "Ratio" "__str__" K) (sp_Ratio___str__ K) := by
  refine fnR_of (k := 0) T.D_Ratio___str__ sc_Ratio___str__ (fun _ _ _ _ _ _ us hl => match us, hl with | [_], _ => rfl) (fun vs H Q E h => ?_) (fun cdv A outer s H vs Q E hr h => ?_)
  · obtain ⟨v0, rfl, _⟩ := h
    rfl
  obtain ⟨v0, rfl, h⟩ := h
  refine ⟨_, pss_cons (ps_if (pt_cmpR op_eq (kSl K (pv 0)) pe_int (nomark _))
        (pss_one (ps_ret (pe_joined1 (pe_fmtL T.Z_digits hr (kSl K (pv 0))))))
        (pss_nil))
      (pss_one (ps_ret (pe_joined (PJ.cons (pe_fmtL T.Z_digits hr (kSl K (pv 0))) (PJ.cons pe_str (PJ.cons (pe_fmtL T.Z_digits hr (kSl K (pv 0))) PJ.nil)))))), ?_⟩
  obtain ⟨t, b, hx, ht, hb, hz, k⟩ := h
  repeat walk_at "rt"
  refine rd_slot0 T.C_Ratio hx ?_
  repeat walk_at "rt"
  refine ite_dec (fun h1 => ?_) (fun h1 => ?_)
  · have h1 : b = 1 := by omega
    repeat walk_at "rt"
    refine rd_slot1 T.C_Ratio hx ⟨t, rfl, ht, ?_⟩
    unfold line at k
    rw [if_pos h1, List.append_nil] at k
    exact k
  · have h1 : b ≠ 1 := by omega
    unfold line at k hz
    rw [if_neg h1] at k hz
    rw [List.length_append, List.length_cons] at hz
    repeat walk_at "rt"
    have z1 : (tx ([] : List Nat) ++ tx (shown t)).length ≤ sizeLine := by rw [tx_app, tx_len]; exact line5 (by simp; omega)
    have z2 : (tx ([] : List Nat) ++ tx (shown t) ++ tx [47]).length ≤ sizeLine := by rw [tx_app, tx_app, tx_len]; exact line5 (by simp; omega)
    have z3 : (tx ([] : List Nat) ++ tx (shown t) ++ tx [47] ++ tx (shown (b : Int))).length ≤ sizeLine := by rw [tx_app, tx_app, tx_app, tx_len]; exact line5 (by simp; omega)
    refine rd_js ?_
    repeat walk_at "rt"
    refine rd_slot1 T.C_Ratio hx ⟨t, rfl, ht, tx (shown t), rfl, z1, rd_js ?_⟩
    repeat walk_at "rt"
    refine ⟨tx [47], rfl, z2, rd_js ?_⟩
    repeat walk_at "rt"
    refine rd_slot0 T.C_Ratio hx ⟨(b : Int), rfl, hb, tx (shown (b : Int)), rfl, z3, rd_js0 ?_⟩
    have e : tx ([] : List Nat) ++ tx (shown t) ++ tx [47] ++ tx (shown (b : Int)) = tx (shown t ++ 47 :: shown (b : Int)) := by
      rw [tx_app, tx_app, tx_app]
      simp
    exact e ▸ k
theorem lt60 {i : Int} (h : -(10 ^ 60) < i ∧ i < 10 ^ 60) : i.natAbs < 2 ^ 13500 := by
  have p : (10 : Nat) ^ 60 < 2 ^ 200 := by decide +kernel
  have q : (2 : Nat) ^ 200 < 2 ^ 13500 := Nat.pow_lt_pow_right (by decide) (by decide)
  have r : i.natAbs < 10 ^ 60 := by omega
  omega
/-- no int at all, or a bool -/
def NInt (K : PySem.W.Frag) (H : Hp) (x : V) : Prop := (∃ t, HasTy K H x t ∧ PySem.W.kitOne K t (.type "int") = some false) ∨ ∃ b, x = .bl b
def inW (i : Int) : Prop := -(10 ^ 60) < i ∧ i < 10 ^ 60
instance {i : Int} : Decidable (inW i) := inferInstanceAs (Decidable (_ ∧ _))
/-- no integer as the package has them -/
def BadI (K : PySem.W.Frag) (H : Hp) (x : V) : Prop := NInt K H x ∨ ∃ i, x = .int i ∧ ¬ inW i
def sp_is_integer (K : PySem.W.Frag) : Sp := sp1 fun x H Q _ => (∃ i, x = .int i ∧ inW i ∧ Q (.bl true) H) ∨ (BadI K H x ∧ Q (.bl false) H)
abbrev n_is_integer : List Str := ["value"]
theorem sc_is_integer : FnScope n_is_integer ["value"] (defScope s_is_integer) := ⟨rfl, rfl, rfl, by decide +kernel, rfl, by decide +kernel, by decide +kernel⟩
theorem cal_is_integer (T : Tx P K mg) : Cal P w K mg base 1 "is_integer" (sp_is_integer K) := by
  refine cal_of (k := 0) T.G_is_integer T.D_is_integer sc_is_integer (fun _ _ _ _ _ _ us hl => match us, hl with | [_], _ => rfl) (fun vs H Q E h => ?_) (fun cdv A outer s H vs Q E hr h => ?_)
  · obtain ⟨v0, rfl, _⟩ := h
    rfl
  obtain ⟨v0, rfl, h⟩ := h
  refine ⟨_, pss_one (ps_ret (pe_and (pe_callB (kIsi K) (by rfl) T.N_isinstance (by decide +kernel) (pa_cons (pv 0) (pa_cons (pe_bltn (v := .ty "int") (by rfl) T.N_int (by decide +kernel) rfl) pa_nil))) (pe_and (pe_not (pe_callB (kIsi K) (by rfl) T.N_isinstance (by decide +kernel) (pa_cons (pv 0) (pa_cons (pe_bltn (v := .ty "bool") (by rfl) T.N_bool (by decide +kernel) rfl) pa_nil)))) (pe_one (pe_chain op_lt op_lt (pe_un un_neg (pe_gI T.I_GREAT)) (pv 0) (pe_gI T.I_GREAT)))))), ?_⟩
  have h : (∃ i, v0 = .int i ∧ Q (.bl (decide (inW i))) H) ∨ (NInt K H v0 ∧ Q (.bl false) H) := by
    rcases h with ⟨i, rfl, hi, k⟩ | ⟨hb | ⟨i, rfl, hi⟩, k⟩
    · exact .inl ⟨i, rfl, by rw [decide_eq_true hi]; exact k⟩
    · exact .inr ⟨hb, k⟩
    · exact .inl ⟨i, rfl, by rw [decide_eq_false hi]; exact k⟩
  rcases h with ⟨i, rfl, k⟩ | ⟨⟨t, ht, hk⟩ | ⟨b, rfl⟩, k⟩
  · walk_at "rd"
    refine rd_isiY HasTy.int ?_ (.ty "int")
    walk_at "rd"
    refine rd_isiN HasTy.int ?_ (.ty "bool")
    walk_at "rd"
    refine ite_dec (fun h1 => ?_) (fun h1 => ?_)
    · walk_at "rd"
      have e : decide (i < 10 ^ 60) = decide (inW i) := decide_eq_decide.mpr ⟨fun h => ⟨h1, h⟩, fun h => h.2⟩
      rw [e]
      exact k
    · rw [decide_eq_false (fun h => h1 h.1)] at k
      exact k
  · repeat walk_at "rt"
    refine rd_isiN ht ?_ (.ty _) hk
    repeat walk_at "rt"
    exact k
  · repeat walk_at "rt"
    refine rd_isiY HasTy.bool ?_ (.ty "int")
    repeat walk_at "rt"
    refine rd_isiY HasTy.bool ?_ (.ty "bool")
    repeat walk_at "rt"
    exact k
/-- InvalidNumber(x) is let out -/
def NumE (K : PySem.W.Frag) (x : V) (H : Hp) (E : XK) : Prop := OKs (gA "Ratio" K) (sp_Ratio___str__ K) x H fun H' => ∀ d, H' d = none → E (.ref (gA "InvalidNumber" K)) (some d) (upd H' d (.xd [("given", x)]))
def sp_told_lowest (K : PySem.W.Frag) : Sp := sp2 fun x y H Q E =>
  (BadI K H x ∧ NumE K x H E) ∨ ∃ t : Int, x = .int t ∧ inW t ∧ (((BadI K H y ∨ y = .int 0) ∧ NumE K y H E) ∨ ∃ b : Int, y = .int b ∧ inW b ∧ b ≠ 0 ∧ ∀ v H', Same H H' → RQ (gA "Lowest" K) H' v (Rat.divInt t b) → Q v H')
abbrev n_told_lowest : List Str := ["top", "bottom"]
theorem sc_told_lowest : FnScope n_told_lowest ["top", "bottom"] (defScope s_told_lowest) := ⟨rfl, rfl, rfl, by decide +kernel, rfl, by decide +kernel, by decide +kernel⟩
theorem cal_told_lowest (T : Tx P K mg) : Cal P w K mg base 10 "told_lowest" (sp_told_lowest K) := by
  refine cal_of (k := 9) T.G_told_lowest T.D_told_lowest sc_told_lowest (fun _ _ _ _ _ _ us hl => match us, hl with | [_, _], _ => rfl) (fun vs H Q E h => ?_) (fun cdv A outer s H vs Q E hr h => ?_)
  · obtain ⟨v0, v1, rfl, _⟩ := h
    rfl
  obtain ⟨v0, v1, rfl, h⟩ := h
  refine ⟨_, pss_cons (ps_if (pt_not (pt_val (pc (cal_is_integer T) hr (pa_cons (pv 0) pa_nil))))
        (pss_one (ps_supO rfl takesE (T.X_InvalidNumber w) (cal_Ratio___str__ T) T.O_Ratio___str__ hr T.G_InvalidNumber (pv 0)))
        (pss_nil))
      (pss_cons (ps_if (PW.pt (pw_or (pt_not (pt_val (pc (cal_is_integer T) hr (pa_cons (pv 1) pa_nil)))) (pw_or1 (pt_cmpR (op_or op_eq (eqX P w K mg base hr)) (pv 1) pe_int (nomark _)))))
        (pss_one (ps_supO rfl takesE (T.X_InvalidNumber w) (cal_Ratio___str__ T) T.O_Ratio___str__ hr T.G_InvalidNumber (pv 1)))
        (pss_nil))
      (pss_one (ps_ret (pc (cal_lowest_of T) hr (pa_cons (pv 0) (pa_cons (pv 1) pa_nil)))))), ?_⟩
  rcases h with ⟨hx, k⟩ | ⟨t, rfl, ht, ⟨hy, k⟩ | ⟨b, rfl, hb2, hb, k⟩⟩
  · repeat walk_at "rt"
    refine ⟨_, rfl, .inr ⟨hx, ?_⟩⟩
    repeat walk_at "rt"
    exact k
  · repeat walk_at "rt"
    refine ⟨_, rfl, .inl ⟨t, rfl, ht, ?_⟩⟩
    repeat walk_at "rt"
    rcases hy with hy | rfl
    · refine ⟨_, rfl, .inr ⟨hy, ?_⟩⟩
      repeat walk_at "rt"
      exact k
    · refine ⟨_, rfl, .inl ⟨0, rfl, by decide, ?_⟩⟩
      repeat walk_at "rt"
      refine .inl (rd_eqI ?_)
      rw [decide_eq_true rfl]
      repeat walk_at "rt"
      exact k
  · repeat walk_at "rt"
    refine ⟨_, rfl, .inl ⟨t, rfl, ht, ?_⟩⟩
    repeat walk_at "rt"
    refine ⟨_, rfl, .inl ⟨b, rfl, hb2, ?_⟩⟩
    repeat walk_at "rt"
    refine .inl (rd_eqI ?_)
    rw [decide_eq_false hb]
    repeat walk_at "rt"
    exact ⟨_, _, rfl, t, b, rfl, rfl, hb, lt60 ht, lt60 hb2, k⟩
end
end LW
end
section
set_option Elab.async false
set_option linter.all false
set_option maxRecDepth 100000
set_option maxHeartbeats 4000000
set_option pp.maxSteps 700
set_option exponentiation.threshold 20000
namespace LW
open PySem PySem.Spec PyProof.Rows L2 Wo
local macro_rules | `(tactic| walk_at "lf") => `(tactic| first | assumption | (refine Up.up (by assumption) ?_; walk_at "lf") | (refine RAll.up (by assumption) ?_; walk_at "lf") | (refine Ob2.up (by assumption) ?_; walk_at "lf"))
local macro_rules | `(tactic| walk_at "side") => `(tactic| first | (unfold CMul; omega) | (unfold CDiv; omega) | (unfold CDivN; omega) | (unfold CPow; omega) | (show (0 : Int) < _; omega) | decide)
local macro_rules | `(tactic| walk_at "rd1") => `(tactic| first
  | ((with_reducible refine rd_var (v := ?v) ?h ?_); (case h => rfl))
  | with_reducible refine rd_c ?_
  | with_reducible refine rd_op ?_
  | with_reducible refine rd_I0 ?_
  | with_reducible refine rd_I ?_ ?_
  | with_reducible refine rd_U ?_
  | with_reducible refine rd_eqI ?_
  | with_reducible refine rd_neI ?_
  | with_reducible refine rd_eqS ?_
  | with_reducible refine rd_neS ?_
  | with_reducible refine rd_un ?_
  | with_reducible refine rd_test ?_
  | with_reducible refine rd_tB ?_
  | with_reducible refine rd_exB ?_
  | with_reducible refine rd_cons ?_
  | with_reducible refine rd_nil ?_
  | with_reducible refine rd_call ?_
  | with_reducible refine rd_cb ?_
  | with_reducible refine rd_seq ?_
  | with_reducible refine rd_asg ?_
  | with_reducible refine rd_gname ?_
  | with_reducible refine rd_ret ?_
  | with_reducible refine rd_ifS ?_
  | with_reducible refine rd_next ?_
  | with_reducible refine rd_drop ?_
  | with_reducible refine rd_if ?_
  | with_reducible refine rd_not ?_
  | with_reducible refine rd_and ?_
  | with_reducible refine rd_or ?_
  | with_reducible refine rd_andV ?_
  | with_reducible refine rd_orV ?_
  | with_reducible refine rd_notV ?_
  | with_reducible refine rd_chain ?_
  | with_reducible refine rd_slot ?_
  | with_reducible refine rd_sst ?_
  | with_reducible refine rd_par ?_
  | with_reducible refine rd_ex2 ?_
  | with_reducible refine rd_gcd ?_
  | with_reducible refine rd_prop ?_
  | with_reducible refine rd_sub ?_
  | with_reducible refine rd_lcm ?_ ?_
  | with_reducible refine rd_forL ?_
  | with_reducible refine rd_forT ?_
  | with_reducible refine rd_forR1 ?_
  | with_reducible refine rd_forZ ?_
  | with_reducible refine rd_lcL ?_
  | with_reducible refine rd_lcT ?_
  | with_reducible refine rd_lcR1 ?_
  | with_reducible refine rd_lcR2 ?_
  | with_reducible refine rd_lcZ ?_
  | with_reducible refine rd_lc2TT ?_
  | with_reducible refine rd_abs ?_
  | with_reducible refine rd_int ?_
  | with_reducible refine rd_intB ?_
  | with_reducible refine rd_max2 ?_
  | with_reducible refine rd_min2 ?_
  | with_reducible refine rd_tup ?_
  | with_reducible refine rd_lst ?_
  | with_reducible refine ite_T ?_
  | with_reducible refine ite_n ?_
  | with_reducible refine ite_y ?_
  | with_reducible refine ite_F ?_
  | with_reducible refine rd_retN ?_)
local macro_rules | `(tactic| walk_at "rd") => `(tactic| repeat walk_at "rd1")
local macro_rules | `(tactic| walk_at "sd") => `(tactic| first | exact Or.inl ⟨by decide, by decide⟩ | exact Or.inr ⟨by decide, by decide⟩ | (show (0 : Int) < _; decide +kernel) | exact ⟨by decide, by decide, by decide +kernel⟩ | exact ⟨by decide, by decide +kernel⟩)
section
variable {P : Program} {w : World} {K : PySem.W.Frag} {mg : Str → Option Value} {base : Heap}
set_option hygiene false in
local macro_rules | `(tactic| walk_at "rt") => `(tactic| first
  | walk_at "rd1"
  | with_reducible refine rd_exI ?_
  | with_reducible refine rd_callW0 ?_)
theorem rd_callW0 {sp : Sp} {W : WX} {t : TA} {σ : L2.St} {H : Hp} {Q : VK} (q : t σ H fun vs H1 => sp vs H1 Q (atW W σ)) : tCallW sp W t σ H Q := q
theorem NInt.up {H H' : Hp} {x : V} (e : Same H H') (h : NInt K H x) : NInt K H' x := h.imp (fun ⟨t, h1, h2⟩ => ⟨t, Up.up (R := RTy K) e h1, h2⟩) id
theorem BadI.up {H H' : Hp} {x : V} (e : Same H H') (h : BadI K H x) : BadI K H' x := h.imp (NInt.up e) id
/-- no instance of the class at C -/
def NoC (K : PySem.W.Frag) (c : Str) (H : Hp) (x : V) : Prop := ∃ t, HasTy K H x t ∧ PySem.W.kitOne K t (.ref (gA c K)) = some false
theorem NoC.up {c : Str} {H H' : Hp} {x : V} (e : Same H H') (h : NoC K c H x) : NoC K c H' x := h.imp fun t ⟨h1, h2⟩ => ⟨Up.up (R := RTy K) e h1, h2⟩
/-- what makes a ratio -/
def Mks (K : PySem.W.Frag) (H : Hp) (x z : V) (q : Rat) : Prop := RQ (gA "Lowest" K) H x q ∨ ∃ t b : Int, x = .int t ∧ z = .int b ∧ b ≠ 0 ∧ inW t ∧ inW b ∧ q = Rat.divInt t b
def sp_Ratio___init__ (K : PySem.W.Frag) : Sp := sp3 fun s x z H Q E => ∃ y dx, s = .ref y ∧ dx ≠ y ∧ H y = some (.ins (gA "Ratio" K) dx []) ∧ H dx = some (.own y) ∧
  ((∃ q, Mks K H x z q ∧ ∀ H', RQ (gA "Ratio" K) H' (.ref y) q → (∀ c o, H c = some o → c ≠ y → c ≠ dx → H' c = some o) → Q .non H') ∨
   (NoC K "Lowest" H x ∧ BadI K H x ∧ NumE K x H E) ∨ ∃ t : Int, x = .int t ∧ inW t ∧ (BadI K H z ∨ z = .int 0) ∧ NumE K z H E)
abbrev n_Ratio___init__ : List Str := ["self", "top", "bottom", "lowest"]
theorem sc_Ratio___init__ : FnScope n_Ratio___init__ ["self", "top", "bottom"] (defScope s_Ratio___init__) := ⟨rfl, rfl, rfl, by decide +kernel, rfl, by decide +kernel, by decide +kernel⟩
theorem cal_Ratio___init__ (T : Tx P K mg) : FnR P w K mg base (CXW P w) 11 (mA "Ratio" "__init__" K) (fun vs H Q E => sp_Ratio___init__ K vs H Q E ∨ sp_Ratio___init__ K (vs ++ [.int 1]) H Q E) := by
  refine fnR_ofD (k := 10) (sp := sp_Ratio___init__ K) T.D_Ratio___init__ sc_Ratio___init__ rfl 2 rfl (fun _ _ _ _ _ _ _ us its hl hl2 => match us, hl, its, hl2 with | [_, _], _, [_], _ => ⟨_, rfl, rfl⟩) (fun _ _ _ _ _ _ _ us its hl hl2 => match us, hl, its, hl2 with | [_, _, _], _, [_], _ => ⟨_, rfl, rfl⟩) (fun vs H Q E h => ?_) (fun cdv A outer s H vs Q E hr h => ?_)
  · obtain ⟨v0, v1, v2, rfl, _⟩ := h
    rfl
  obtain ⟨v0, v1, v2, rfl, h⟩ := h
  refine ⟨_, pss_cons (ps_set (i := 3) sc_Ratio___init__.nd rfl (by first | exact Or.inl rfl | exact Or.inr rfl) (pe_ifExp (pt_val (pe_callB (kIsi K) (by rfl) T.N_isinstance (by decide +kernel) (pa_cons (pv 1) (pa_cons (pe_gC T.G_Lowest) pa_nil)))) (pv 1) (pcW (cal_told_lowest T) hr takesE (pa_cons (pv 1) (pa_cons (pv 2) pa_nil)))))
      (pss_cons (SlX.ps_sl (pv 0) (kSl K (pv 3)))
      (pss_one (SlX.ps_sl (pv 0) (kSl K (pv 3))))), ?_⟩
  obtain ⟨y, dx, rfl, hne, hy, hdx, hh⟩ := h
  obtain ⟨p0, q0⟩ := T.C_Ratio.s0
  obtain ⟨p1, q1⟩ := T.C_Ratio.s1
  rcases hh with ⟨q, hx, k⟩ | ⟨⟨t, ht, hk⟩, hb, k⟩ | ⟨t, rfl, ht, hb, k⟩
  · repeat walk_at "rt"
    rcases hx with hx | ⟨t, b, rfl, rfl, hb, h1, h2, rfl⟩
    case' inl =>
      refine rd_isiY (HasTy.ob T.C_Lowest hx) ?_ (.own _) T.K_Lowest_Lowest
      repeat walk_at "rt"
      have e := Same.refl H
      have hv := hx
    case' inr =>
      refine rd_isiN HasTy.int ?_ (.own _) T.K_int_Lowest
      repeat walk_at "rt"
      refine ⟨_, _, rfl, .inr ⟨t, rfl, h1, .inr ⟨b, rfl, h2, hb, fun v H' e hv => ?_⟩⟩⟩
      repeat walk_at "rt"
    all_goals
      refine rd_top T.C_Lowest hv ?_
      repeat walk_at "rt"
      refine ⟨y, _, dx, _, [], _, rfl, .inl ⟨e _ _ hy, rfl⟩, T.C_Ratio.cl, q1, ?_⟩
      repeat walk_at "rt"
      refine rd_bot T.C_Lowest (rq_slH hv (e _ _ hy) (e _ _ hdx)) ?_
      repeat walk_at "rt"
      refine ⟨y, _, dx, _, _, _, rfl, SlX.slH_slt hne, T.C_Ratio.cl, q0, ?_⟩
      rw [SlX.slH_twice hne]
      exact k _ ⟨y, dx, rfl, SlX.slH_slt hne⟩ fun c o h e1 e2 => by rw [SlX.slH_ne e1 e2]; exact e _ _ h
  · repeat walk_at "rt"
    refine rd_isiN ht ?_ (.own _) hk
    repeat walk_at "rt"
    exact ⟨_, _, rfl, .inl ⟨hb, k⟩⟩
  · repeat walk_at "rt"
    refine rd_isiN HasTy.int ?_ (.own _) T.K_int_Lowest
    repeat walk_at "rt"
    exact ⟨_, _, rfl, .inr ⟨t, rfl, ht, .inl ⟨hb, k⟩⟩⟩
/-- Ratio(x), Ratio(t, b) -/
def sp_Ratio (K : PySem.W.Frag) : Sp := fun vs H Q E => ∃ x z, (vs = [x, z] ∨ (vs = [x] ∧ z = .int 1)) ∧
  ((∃ q, Mks K H x z q ∧ ∀ v H', Same H H' → RQ (gA "Ratio" K) H' v q → Q v H') ∨
   (NoC K "Lowest" H x ∧ BadI K H x ∧ ∀ H1, Same H H1 → NumE K x H1 E) ∨ ∃ t : Int, x = .int t ∧ inW t ∧ (BadI K H z ∨ z = .int 0) ∧ ∀ H1, Same H H1 → NumE K z H1 E)
theorem ctor_Ratio (T : Tx P K mg) : Ctor P w K mg base 11 "Ratio" (sp_Ratio K) := by
  refine ⟨_, _, _, T.G_Ratio, T.C_Ratio.make, cal_Ratio___init__ T, fun vs H Q E h y dx h1 h2 h3 => ?_⟩
  obtain ⟨x, z, hv, hh⟩ := h
  have st : Same H (upd (upd H dx (.own y)) y (.ins (gA "Ratio" K) dx [])) := fun c o e => by
    rw [upd_ne (ne_of_none e h1), upd_ne (ne_of_none e h2)]
    exact e
  have main : sp_Ratio___init__ K [.ref y, x, z] (upd (upd H dx (.own y)) y (.ins (gA "Ratio" K) dx [])) (fun v H2 => v = .non ∧ Q (.ref y) H2) E := by
    refine ⟨_, _, _, rfl, y, dx, rfl, h3, upd_same, by rw [upd_ne h3, upd_same], ?_⟩
    rcases hh with ⟨q, hx, k⟩ | ⟨hn, hb, k⟩ | ⟨t, rfl, ht, hb, k⟩
    · refine .inl ⟨q, hx.imp (fun r => Up.up st r) id, fun H' r hk => ⟨rfl, k _ H' (fun c o e => ?_) r⟩⟩
      have n1 := ne_of_none e h1
      have n2 := ne_of_none e h2
      exact hk c o (by rw [upd_ne n1, upd_ne n2]; exact e) n1 n2
    · exact .inr (.inl ⟨hn.up st, hb.up st, k _ st⟩)
    · exact .inr (.inr ⟨t, rfl, ht, hb.imp (fun h => BadI.up st h) id, k _ st⟩)
  rcases hv with rfl | ⟨rfl, rfl⟩
  · exact .inl main
  · exact .inr main
def sp_Ratio_top (K : PySem.W.Frag) : Sp := sp1 fun x H Q _ => ∃ q, RQ (gA "Ratio" K) H x q ∧ Q (.int q.num) H
abbrev n_Ratio_top : List Str := ["self"]
theorem sc_Ratio_top : FnScope n_Ratio_top ["self"] (defScope s_Ratio_top) := ⟨rfl, rfl, rfl, by decide +kernel, rfl, by decide +kernel, by decide +kernel⟩
theorem cal_Ratio_top (T : Tx P K mg) : FnR P w K mg base (CXW P w) 1 (rA "property" "Ratio" "top" K) (sp_Ratio_top K) := by
  refine fnR_of (k := 0) T.D_Ratio_top sc_Ratio_top (fun _ _ _ _ _ _ us hl => match us, hl with | [_], _ => rfl) (fun vs H Q E h => ?_) (fun cdv A outer s H vs Q E hr h => ?_)
  · obtain ⟨v0, rfl, _⟩ := h
    rfl
  obtain ⟨v0, rfl, h⟩ := h
  refine ⟨_, pss_one (ps_ret (kSl K (pv 0))), ?_⟩
  obtain ⟨q, hq, k⟩ := h
  walk_at "rd"
  refine rd_top T.C_Ratio hq ?_
  exact k
def sp_Ratio_bottom (K : PySem.W.Frag) : Sp := sp1 fun x H Q _ => ∃ q, RQ (gA "Ratio" K) H x q ∧ Q (.int q.den) H
abbrev n_Ratio_bottom : List Str := ["self"]
theorem sc_Ratio_bottom : FnScope n_Ratio_bottom ["self"] (defScope s_Ratio_bottom) := ⟨rfl, rfl, rfl, by decide +kernel, rfl, by decide +kernel, by decide +kernel⟩
theorem cal_Ratio_bottom (T : Tx P K mg) : FnR P w K mg base (CXW P w) 1 (rA "property" "Ratio" "bottom" K) (sp_Ratio_bottom K) := by
  refine fnR_of (k := 0) T.D_Ratio_bottom sc_Ratio_bottom (fun _ _ _ _ _ _ us hl => match us, hl with | [_], _ => rfl) (fun vs H Q E h => ?_) (fun cdv A outer s H vs Q E hr h => ?_)
  · obtain ⟨v0, rfl, _⟩ := h
    rfl
  obtain ⟨v0, rfl, h⟩ := h
  refine ⟨_, pss_one (ps_ret (kSl K (pv 0))), ?_⟩
  obtain ⟨q, hq, k⟩ := h
  walk_at "rd"
  refine rd_bot T.C_Ratio hq ?_
  exact k
theorem prop_Ratio_top (T : Tx P K mg) : Prp P w K mg base 1 (gA "Ratio" K) "top" (sp_Ratio_top K) := ⟨_, T.P_Ratio_top, T.C_Ratio.cl, cal_Ratio_top T⟩
theorem prop_Ratio_bottom (T : Tx P K mg) : Prp P w K mg base 1 (gA "Ratio" K) "bottom" (sp_Ratio_bottom K) := ⟨_, T.P_Ratio_bottom, T.C_Ratio.cl, cal_Ratio_bottom T⟩
def sp_Ratio___eq__ (K : PySem.W.Frag) : Sp := sp2 fun x y H Q _ => ∃ q, RQ (gA "Ratio" K) H x q ∧ ((∃ r, RQ (gA "Ratio" K) H y r ∧ Q (.bl (decide (q = r))) H) ∨ (NoC K "Ratio" H y ∧ Q (.bl false) H))
abbrev n_Ratio___eq__ : List Str := ["self", "other"]
theorem sc_Ratio___eq__ : FnScope n_Ratio___eq__ ["self", "other"] (defScope s_Ratio___eq__) := ⟨rfl, rfl, rfl, by decide +kernel, rfl, by decide +kernel, by decide +kernel⟩
theorem cal_Ratio___eq__ (T : Tx P K mg) : FnR P w K mg base (CXW P w) 1 (mA "Ratio" "__eq__" K) (sp_Ratio___eq__ K) := by
  refine fnR_of (k := 0) T.D_Ratio___eq__ sc_Ratio___eq__ (fun _ _ _ _ _ _ us hl => match us, hl with | [_, _], _ => rfl) (fun vs H Q E h => ?_) (fun cdv A outer s H vs Q E hr h => ?_)
  · obtain ⟨v0, v1, rfl, _⟩ := h
    rfl
  obtain ⟨v0, v1, rfl, h⟩ := h
  refine ⟨_, pss_one (ps_ret (pe_and (pe_callB (kIsi K) (by rfl) T.N_isinstance (by decide +kernel) (pa_cons (pv 1) (pa_cons (pe_gC T.G_Ratio) pa_nil))) (pe_and (pe_cmpR op_eq (kSl K (pv 0)) (kSl K (pv 1)) (nomark _)) (pe_one (pe_cmpR op_eq (kSl K (pv 0)) (kSl K (pv 1)) (nomark _)))))), ?_⟩
  obtain ⟨q, hq, ⟨r, hr', k⟩ | ⟨⟨t, ht, hk⟩, k⟩⟩ := h
  · walk_at "rd"
    refine rd_isiY (HasTy.rq T.C_Ratio hr') ?_ (.own _) T.K_Ratio_Ratio
    walk_at "rd"
    refine rd_top T.C_Ratio hq ?_
    walk_at "rd"
    refine rd_top T.C_Ratio hr' ?_
    walk_at "rd"
    refine ite_dec (fun hn => ?_) (fun hn => ?_)
    · walk_at "rd"
      refine rd_bot T.C_Ratio hq ?_
      walk_at "rd"
      refine rd_bot T.C_Ratio hr' ?_
      walk_at "rd"
      have e : decide ((q.den : Int) = (r.den : Int)) = decide (q = r) := decide_eq_decide.mpr ⟨fun h => Rat.ext hn (by omega), fun h => by rw [h]⟩
      rw [e]
      exact k
    · rw [decide_eq_false (fun h => hn (by rw [h]))] at k
      exact k
  · walk_at "rd"
    refine rd_isiN ht ?_ (.own _) hk
    walk_at "rd"
    exact k
theorem eqF (T : Tx P K mg) : FnR P w K mg base (CXW P w) 1 (mA "Ratio" "__eq__" K) (sp_eqQ (gA "Ratio" K)) := (cal_Ratio___eq__ T).imp fun vs H Q E ⟨x, y, e, a, b, h1, h2, q⟩ => ⟨x, y, e, a, h1, .inl ⟨b, h2, q⟩⟩
def sp_is_ratio (K : PySem.W.Frag) : Sp := sp1 fun x H Q _ => ((∃ q, RQ (gA "Ratio" K) H x q) ∧ Q (.bl true) H) ∨ (NoC K "Ratio" H x ∧ Q (.bl false) H)
abbrev n_is_ratio : List Str := ["value"]
theorem sc_is_ratio : FnScope n_is_ratio ["value"] (defScope s_is_ratio) := ⟨rfl, rfl, rfl, by decide +kernel, rfl, by decide +kernel, by decide +kernel⟩
theorem cal_is_ratio (T : Tx P K mg) : Cal P w K mg base 1 "is_ratio" (sp_is_ratio K) := by
  refine cal_of (k := 0) T.G_is_ratio T.D_is_ratio sc_is_ratio (fun _ _ _ _ _ _ us hl => match us, hl with | [_], _ => rfl) (fun vs H Q E h => ?_) (fun cdv A outer s H vs Q E hr h => ?_)
  · obtain ⟨v0, rfl, _⟩ := h
    rfl
  obtain ⟨v0, rfl, h⟩ := h
  refine ⟨_, pss_one (ps_ret (pe_callB (kIsi K) (by rfl) T.N_isinstance (by decide +kernel) (pa_cons (pv 0) (pa_cons (pe_gC T.G_Ratio) pa_nil)))), ?_⟩
  rcases h with ⟨⟨q, hq⟩, k⟩ | ⟨⟨t, ht, hk⟩, k⟩
  · walk_at "rd"
    refine rd_isiY (HasTy.rq T.C_Ratio hq) ?_ (.own _) T.K_Ratio_Ratio
    exact k
  · walk_at "rd"
    refine rd_isiN ht ?_ (.own _) hk
    exact k
theorem fits_lt {q : Rat} (h : q.num.natAbs < 10 ^ 60 ∧ q.den < 10 ^ 60) : q.num.natAbs < 2 ^ 6644 ∧ ((q.den : Int)).natAbs < 2 ^ 6644 := by
  have e : (10 : Nat) ^ 60 < 2 ^ 200 := by decide +kernel
  have e2 : (2 : Nat) ^ 200 < 2 ^ 6644 := Nat.pow_lt_pow_right (by decide) (by decide)
  obtain ⟨h1, h2⟩ := h
  exact ⟨by omega, by omega⟩
theorem rd_callW {sp : Sp} {W : WX} {t : TA} {σ : L2.St} {H : Hp} {Q : VK} (q : t σ H fun vs H1 => sp vs H1 Q (atW W σ)) : tCallW sp W t σ H Q := q
/-- InvalidRatio is let out -/
def OddR (K : PySem.W.Frag) (H : Hp) (x : V) (E : XK) : Prop := NoC K "Ratio" H x ∧ E (.ref (gA "InvalidRatio" K)) none H
def sp_require_ratio (K : PySem.W.Frag) : Sp := sp1 fun x H Q E => (∃ q, RQ (gA "Ratio" K) H x q ∧ Q .non H) ∨ OddR K H x E
abbrev n_require_ratio : List Str := ["value"]
theorem sc_require_ratio : FnScope n_require_ratio ["value"] (defScope s_require_ratio) := ⟨rfl, rfl, rfl, by decide +kernel, rfl, by decide +kernel, by decide +kernel⟩
theorem cal_require_ratio (T : Tx P K mg) : Cal P w K mg base 1 "require_ratio" (sp_require_ratio K) := by
  refine cal_of (k := 0) T.G_require_ratio T.D_require_ratio sc_require_ratio (fun _ _ _ _ _ _ us hl => match us, hl with | [_], _ => rfl) (fun vs H Q E h => ?_) (fun cdv A outer s H vs Q E hr h => ?_)
  · obtain ⟨v0, rfl, _⟩ := h
    rfl
  obtain ⟨v0, rfl, h⟩ := h
  refine ⟨_, pss_one (ps_if (pt_not (pt_val (pe_callB (kIsi K) (by rfl) T.N_isinstance (by decide +kernel) (pa_cons (pv 0) (pa_cons (pe_gC T.G_Ratio) pa_nil)))))
        (pss_one (ps_ownW rfl takesE T.E_InvalidRatio T.G_InvalidRatio))
        (pss_nil)), ?_⟩
  rcases h with ⟨q, hq, k⟩ | ⟨⟨t, ht, hk⟩, k⟩
  · walk_at "rd"
    refine rd_isiY (HasTy.rq T.C_Ratio hq) ?_ (.own _) T.K_Ratio_Ratio
    walk_at "rd"
    exact k
  · walk_at "rd"
    refine rd_isiN ht ?_ (.own _) hk
    walk_at "rd"
    exact k
/-- terms of sixty digits -/
def Sm60 (q : Rat) : Prop := q.num.natAbs < 10 ^ 60 ∧ q.den < 10 ^ 60
def sp_Ratio_is_less (K : PySem.W.Frag) : Sp := sp2 fun x y H Q E => ∃ p, RQ (gA "Ratio" K) H x p ∧ ((∃ q, RQ (gA "Ratio" K) H y q ∧ Sm60 p ∧ Sm60 q ∧ Q (.bl (decide (p < q))) H) ∨ OddR K H y E)
abbrev n_Ratio_is_less : List Str := ["self", "other"]
theorem sc_Ratio_is_less : FnScope n_Ratio_is_less ["self", "other"] (defScope s_Ratio_is_less) := ⟨rfl, rfl, rfl, by decide +kernel, rfl, by decide +kernel, by decide +kernel⟩
theorem cal_Ratio_is_less (T : Tx P K mg) : FnR P w K mg base (CXW P w) 2 (mA "Ratio" "is_less" K) (sp_Ratio_is_less K) := by
  refine fnR_of (k := 1) T.D_Ratio_is_less sc_Ratio_is_less (fun _ _ _ _ _ _ us hl => match us, hl with | [_, _], _ => rfl) (fun vs H Q E h => ?_) (fun cdv A outer s H vs Q E hr h => ?_)
  · obtain ⟨v0, v1, rfl, _⟩ := h
    rfl
  obtain ⟨v0, v1, rfl, h⟩ := h
  refine ⟨_, pss_cons (ps_expr (pcW (cal_require_ratio T) hr takesE (pa_cons (pv 1) pa_nil)))
      (pss_one (ps_ret (pe_cmpR op_lt (pe_op op_mulW (kSl K (pv 0)) (kSl K (pv 1))) (pe_op op_mulW (kSl K (pv 1)) (kSl K (pv 0))) (nomark _)))), ?_⟩
  obtain ⟨p, hp, ⟨q, hq, fp, fq, k⟩ | k⟩ := h
  · obtain ⟨p1, p2⟩ := fits_lt fp
    obtain ⟨q1, q2⟩ := fits_lt fq
    walk_at "rd"
    refine rd_callW ?_
    walk_at "rd"
    refine ⟨_, rfl, .inl ⟨q, hq, ?_⟩⟩
    repeat (first | walk_at "rt" | with_reducible refine rd_top T.C_Ratio hp ?_ | with_reducible refine rd_bot T.C_Ratio hp ?_ | with_reducible refine rd_top T.C_Ratio hq ?_ | with_reducible refine rd_bot T.C_Ratio hq ?_)
    · rw [show decide (p.num * (q.den : Int) < q.num * (p.den : Int)) = decide (p < q) from decide_eq_decide.mpr (Rat.lt_iff p q).symm]
      exact k
    · exact mul_of q1 p2
    · exact mul_of p1 q2
  · walk_at "rd"
    refine rd_callW ?_
    walk_at "rd"
    exact ⟨_, rfl, .inr k⟩
theorem rd_negW {C : Addr} {sp : Sp} {W : WX} {ta : TE} {σ : L2.St} {H : Hp} {Q : VK} (q : ta σ H fun x H1 => (∃ u v, Ob2 C H1 x u v) ∧ sp [x] H1 Q (atW W σ)) : tUnW C sp W ta σ H Q := q
def sp_Ratio___neg__ (K : PySem.W.Frag) : Sp := sp1 fun x H Q _ => ∃ p, RQ (gA "Ratio" K) H x p ∧ ∀ v H', Same H H' → RQ (gA "Ratio" K) H' v (-p) → Q v H'
abbrev n_Ratio___neg__ : List Str := ["self"]
theorem sc_Ratio___neg__ : FnScope n_Ratio___neg__ ["self"] (defScope s_Ratio___neg__) := ⟨rfl, rfl, rfl, by decide +kernel, rfl, by decide +kernel, by decide +kernel⟩
theorem cal_Ratio___neg__ (T : Tx P K mg) : FnR P w K mg base (CXW P w) 13 (mA "Ratio" "__neg__" K) (sp_Ratio___neg__ K) := by
  refine fnR_of (k := 12) T.D_Ratio___neg__ sc_Ratio___neg__ (fun _ _ _ _ _ _ us hl => match us, hl with | [_], _ => rfl) (fun vs H Q E h => ?_) (fun cdv A outer s H vs Q E hr h => ?_)
  · obtain ⟨v0, rfl, _⟩ := h
    rfl
  obtain ⟨v0, rfl, h⟩ := h
  refine ⟨_, pss_one (ps_ret (pmW (ctor_Ratio T) hr takesE (pa_cons (pm (ctor_Lowest T) hr (pa_cons (pe_un un_neg (kSl K (pv 0))) (pa_cons (kSl K (pv 0)) pa_nil))) pa_nil))), ?_⟩
  obtain ⟨p, hp, k⟩ := h
  repeat (first | walk_at "rt" | with_reducible refine rd_top T.C_Ratio hp ?_ | with_reducible refine rd_bot T.C_Ratio hp ?_)
  refine ⟨_, _, rfl, fun v H' e hv => ?_⟩
  repeat walk_at "rt"
  exact ⟨_, .int 1, .inr ⟨rfl, rfl⟩, .inl ⟨_, .inl (by unfold RQ; rw [show (-p).num = -p.num from rfl, show (-p).den = p.den from rfl]; exact hv), fun v H'' e' hv' => k v H'' (e.trans e') hv'⟩⟩
def qabs (p : Rat) : Rat := if p.num < 0 then -p else p
theorem qabs_num (p : Rat) : (qabs p).num = (p.num.natAbs : Int) := by
  unfold qabs
  split
  · show -p.num = _; omega
  · omega
theorem qabs_den (p : Rat) : (qabs p).den = p.den := by
  unfold qabs
  split
  · rfl
  · rfl
def sp_Ratio___abs__ (K : PySem.W.Frag) : Sp := sp1 fun x H Q _ => ∃ p, RQ (gA "Ratio" K) H x p ∧ ∀ v H', Same H H' → RQ (gA "Ratio" K) H' v (qabs p) → Q v H'
abbrev n_Ratio___abs__ : List Str := ["self"]
theorem sc_Ratio___abs__ : FnScope n_Ratio___abs__ ["self"] (defScope s_Ratio___abs__) := ⟨rfl, rfl, rfl, by decide +kernel, rfl, by decide +kernel, by decide +kernel⟩
theorem cal_Ratio___abs__ (T : Tx P K mg) : FnR P w K mg base (CXW P w) 13 (mA "Ratio" "__abs__" K) (sp_Ratio___abs__ K) := by
  refine fnR_of (k := 12) T.D_Ratio___abs__ sc_Ratio___abs__ (fun _ _ _ _ _ _ us hl => match us, hl with | [_], _ => rfl) (fun vs H Q E h => ?_) (fun cdv A outer s H vs Q E hr h => ?_)
  · obtain ⟨v0, rfl, _⟩ := h
    rfl
  obtain ⟨v0, rfl, h⟩ := h
  refine ⟨_, pss_one (ps_ret (pmW (ctor_Ratio T) hr takesE (pa_cons (pm (ctor_Lowest T) hr (pa_cons (pe_callB bi_abs (by rfl) T.N_abs (by decide +kernel) (pa_cons (kSl K (pv 0)) pa_nil)) (pa_cons (kSl K (pv 0)) pa_nil))) pa_nil))), ?_⟩
  obtain ⟨p, hp, k⟩ := h
  repeat (first | walk_at "rt" | with_reducible refine rd_top T.C_Ratio hp ?_ | with_reducible refine rd_bot T.C_Ratio hp ?_)
  refine ⟨_, _, rfl, fun v H' e hv => ?_⟩
  repeat walk_at "rt"
  exact ⟨_, .int 1, .inr ⟨rfl, rfl⟩, .inl ⟨qabs p, .inl (by unfold RQ; rw [qabs_num, qabs_den]; exact hv), fun v H'' e' hv' => k v H'' (e.trans e') hv'⟩⟩
def sp_Ratio___bool__ (K : PySem.W.Frag) : Sp := sp1 fun x H Q _ => ∃ p, RQ (gA "Ratio" K) H x p ∧ Q (.bl (p.num != 0)) H
abbrev n_Ratio___bool__ : List Str := ["self"]
theorem sc_Ratio___bool__ : FnScope n_Ratio___bool__ ["self"] (defScope s_Ratio___bool__) := ⟨rfl, rfl, rfl, by decide +kernel, rfl, by decide +kernel, by decide +kernel⟩
theorem cal_Ratio___bool__ (T : Tx P K mg) : FnR P w K mg base (CXW P w) 1 (mA "Ratio" "__bool__" K) (sp_Ratio___bool__ K) := by
  refine fnR_of (k := 0) T.D_Ratio___bool__ sc_Ratio___bool__ (fun _ _ _ _ _ _ us hl => match us, hl with | [_], _ => rfl) (fun vs H Q E h => ?_) (fun cdv A outer s H vs Q E hr h => ?_)
  · obtain ⟨v0, rfl, _⟩ := h
    rfl
  obtain ⟨v0, rfl, h⟩ := h
  refine ⟨_, pss_one (ps_ret (pe_callTy bi_bool1 (by rfl) T.N_bool (by decide +kernel) (pa_cons (kSl K (pv 0)) pa_nil))), ?_⟩
  obtain ⟨p, hp, k⟩ := h
  repeat (first | walk_at "rt" | with_reducible refine rd_top T.C_Ratio hp ?_ | with_reducible refine rd_bot T.C_Ratio hp ?_)
  exact .inl ⟨_, rfl, k⟩
end
end LW
end
section
set_option Elab.async false
set_option linter.all false
set_option maxRecDepth 100000
set_option maxHeartbeats 4000000
set_option exponentiation.threshold 20000
namespace LW
open PySem PySem.Spec PyProof.Rows L2 Wo
local macro_rules | `(tactic| walk_at "lf") => `(tactic| first | assumption | (refine Up.up (by assumption) ?_; walk_at "lf") | (refine RAll.up (by assumption) ?_; walk_at "lf") | (refine Ob2.up (by assumption) ?_; walk_at "lf"))
local macro_rules | `(tactic| walk_at "side") => `(tactic| first | (unfold CMul; omega) | (unfold CDiv; omega) | (unfold CDivN; omega) | (unfold CPow; omega) | (show (0 : Int) < _; omega) | decide)
local macro_rules | `(tactic| walk_at "rd1") => `(tactic| first
  | ((with_reducible refine rd_var (v := ?v) ?h ?_); (case h => rfl))
  | with_reducible refine rd_c ?_
  | with_reducible refine rd_op ?_
  | with_reducible refine rd_I0 ?_
  | with_reducible refine rd_I ?_ ?_
  | with_reducible refine rd_U ?_
  | with_reducible refine rd_eqI ?_
  | with_reducible refine rd_neI ?_
  | with_reducible refine rd_eqS ?_
  | with_reducible refine rd_neS ?_
  | with_reducible refine rd_un ?_
  | with_reducible refine rd_test ?_
  | with_reducible refine rd_tB ?_
  | with_reducible refine rd_exB ?_
  | with_reducible refine rd_cons ?_
  | with_reducible refine rd_nil ?_
  | with_reducible refine rd_call ?_
  | with_reducible refine rd_cb ?_
  | with_reducible refine rd_seq ?_
  | with_reducible refine rd_asg ?_
  | with_reducible refine rd_gname ?_
  | with_reducible refine rd_ret ?_
  | with_reducible refine rd_ifS ?_
  | with_reducible refine rd_next ?_
  | with_reducible refine rd_drop ?_
  | with_reducible refine rd_if ?_
  | with_reducible refine rd_not ?_
  | with_reducible refine rd_and ?_
  | with_reducible refine rd_or ?_
  | with_reducible refine rd_andV ?_
  | with_reducible refine rd_orV ?_
  | with_reducible refine rd_notV ?_
  | with_reducible refine rd_chain ?_
  | with_reducible refine rd_slot ?_
  | with_reducible refine rd_sst ?_
  | with_reducible refine rd_par ?_
  | with_reducible refine rd_ex2 ?_
  | with_reducible refine rd_gcd ?_
  | with_reducible refine rd_prop ?_
  | with_reducible refine rd_sub ?_
  | with_reducible refine rd_lcm ?_ ?_
  | with_reducible refine rd_forL ?_
  | with_reducible refine rd_forT ?_
  | with_reducible refine rd_forR1 ?_
  | with_reducible refine rd_forZ ?_
  | with_reducible refine rd_lcL ?_
  | with_reducible refine rd_lcT ?_
  | with_reducible refine rd_lcR1 ?_
  | with_reducible refine rd_lcR2 ?_
  | with_reducible refine rd_lcZ ?_
  | with_reducible refine rd_lc2TT ?_
  | with_reducible refine rd_abs ?_
  | with_reducible refine rd_int ?_
  | with_reducible refine rd_intB ?_
  | with_reducible refine rd_max2 ?_
  | with_reducible refine rd_min2 ?_
  | with_reducible refine rd_tup ?_
  | with_reducible refine rd_lst ?_
  | with_reducible refine ite_T ?_
  | with_reducible refine ite_n ?_
  | with_reducible refine ite_y ?_
  | with_reducible refine ite_F ?_
  | with_reducible refine rd_retN ?_)
local macro_rules | `(tactic| walk_at "rd") => `(tactic| repeat walk_at "rd1")
local macro_rules | `(tactic| walk_at "sd") => `(tactic| first | exact Or.inl ⟨by decide, by decide⟩ | exact Or.inr ⟨by decide, by decide⟩ | (show (0 : Int) < _; decide +kernel) | exact ⟨by decide, by decide, by decide +kernel⟩ | exact ⟨by decide, by decide +kernel⟩)
section
variable {P : Program} {w : World} {K : PySem.W.Frag} {mg : Str → Option Value} {base : Heap}
theorem rd_setC {H : Hp} {Q : Hp → Prop} {u : Addr} {xs : List V} {n : Nat} {v : V} {i : Int} (h : H u = some (.lst xs)) (k : ∀ H', (∀ p o, H p = some o → p ≠ u → H' p = some o) → H' u = some (.lst (xs.set n v)) → Q H') (hl : n < xs.length := by decide) (hn : i = (n : Int) := by rfl) : rSetL (.ref u) (.int i) v H Q := by
  subst hn
  refine ⟨u, xs, n, n, rfl, rfl, h, ?_, k _ (fun p o e ne => by rw [upd_ne ne]; exact e) upd_same⟩
  unfold ixN
  rw [if_pos (by omega), if_pos (by omega), Int.toNat_natCast]
/-- an urn: three ints -/
def Pu (xs : List V) : Prop := ∃ a b c : Int, xs = [.int a, .int b, .int c]
def sp_w_urn (K : PySem.W.Frag) : Sp := sp2 fun x y H Q _ => ∃ (ns : List Int) (i : Nat), RL K RI H x ns ∧ y = .int i ∧ ∀ u H' a b c, Same H H' → H u = none → H' u = some (.lst [.int a, .int b, .int c]) → Q (.ref u) H'
abbrev n_w_urn : List Str := ["_law_script", "_law_turn", "_law_cell", "_law_great"]
theorem sc_w_urn : FnScope n_w_urn ["_law_script", "_law_turn"] (defScope s_w_urn) := ⟨rfl, rfl, rfl, by decide +kernel, rfl, by decide +kernel, by decide +kernel⟩
theorem cal_w_urn (T : Tx P K mg) : Cal P w K mg base 1 "_law_urn" (sp_w_urn K) := by
  refine cal_of (k := 0) T.G_w_urn T.D_w_urn sc_w_urn (fun _ _ _ _ _ _ us hl => match us, hl with | [_, _], _ => rfl) (fun vs H Q E h => ?_) (fun cdv A outer s H vs Q E hr h => ?_)
  · obtain ⟨v0, v1, rfl, _⟩ := h
    rfl
  obtain ⟨v0, v1, rfl, h⟩ := h
  refine ⟨_, pss_cons (ps_set (i := 2) sc_w_urn.nd rfl (by first | exact Or.inl rfl | exact Or.inr rfl) (pe_ifExp (pt_cmpR op_lt (pv 1) (pe_callB (kLen K) (by rfl) T.N_len (by decide +kernel) (pa_cons (pv 0) pa_nil)) (nomark _)) (pe_callTy bi_int1 (by rfl) T.N_int (by decide +kernel) (pa_cons (pe_ix (kIxL K) (pv 0) (pv 1) (fun _ _ => rfl)) pa_nil)) (pe_op op_add (pe_op op_mul pe_int (pv 1)) pe_int)))
      (pss_cons (ps_set (i := 3) sc_w_urn.nd rfl (by first | exact Or.inl rfl | exact Or.inr rfl) (pe_op op_mod (pe_callB bi_abs (by rfl) T.N_abs (by decide +kernel) (pa_cons (pv 2) pa_nil)) (pe_op op_powW (pe_op op_pow pe_int pe_int) pe_int)))
      (pss_one (ps_ret (pe_lst (pa_cons (pe_callB (bi_max2 rfl) (by rfl) T.N_max (by decide +kernel) (pa_cons pe_int (pa_cons (pe_op op_sub (pv 3) (pe_op op_pow pe_int pe_int)) pa_nil))) (pa_cons (pe_op op_add (pe_op op_add (pe_op op_add (pe_op op_mul (pe_op op_mod (pv 3) pe_int) pe_int) (pe_op op_mul pe_int (pv 1))) (pe_op op_mul pe_int (pe_callTy bi_int1 (by rfl) T.N_int (by decide +kernel) (pa_cons (pe_cmpR op_lt (pv 2) pe_int (nomark _)) pa_nil)))) pe_int) (pa_cons pe_int pa_nil))))))), ?_⟩
  obtain ⟨ns, i, hns, rfl, k⟩ := h
  walk_at "rd"
  refine rd_lenL hns ?_
  walk_at "rd"
  refine ite_dec (fun hlt => ?aa) (fun hlt => ?bb)
  case' aa =>
    walk_at "rd"
    have hi : i < ns.length := by omega
    refine rd_ixL (n := i) (a := ns[i]) hns (by simp [hi]) (fun w' hw => ?_)
    obtain rfl := hw
    walk_at "rd"
  case' bb => walk_at "rd"
  all_goals first
    | exact ⟨by show 3 ≤ sizeLine; decide, fun p hp => k _ _ _ _ _ (Same.new hp) hp upd_same⟩
    | walk_at "sd"
/-- a new well, opaque -/
def sp_urn (K : PySem.W.Frag) : Sp := sp2 fun x y H Q _ => ∃ (ns : List Int) (i : Nat), RL K RI H x ns ∧ y = .int i ∧ ∀ u H', Same H H' → H' u = some (UrnO u Pu) → Q (.ref u) H'
theorem cal_urn (T : Tx P K mg) : Cal P w K mg base 1 "_law_urn" (sp_urn K) := by
  obtain ⟨f, h1, h2, F⟩ := cal_w_urn (P := P) (w := w) (base := base) T
  refine ⟨f, h1, h2, fnR_made (p := Pu) F fun vs H Q E h => ?_⟩
  obtain ⟨x, y, rfl, ns, i, hns, rfl, k⟩ := h
  refine ⟨_, _, rfl, ns, i, hns, rfl, fun u H' a b c e hu hu' => ⟨u, _, rfl, hu', ⟨a, b, c, rfl⟩, hu, k u _ (fun q o z => ?_) upd_same⟩⟩
  rw [upd_ne (ne_of_none z hu)]
  exact e q o z
def sp_w_drawn (K : PySem.W.Frag) : Sp := sp2 fun x y H Q _ => ∃ (u : Addr) (a b c t : Int), x = .ref u ∧ H u = some (.lst [.int a, .int b, .int c]) ∧ y = .int t ∧ 0 < t ∧ t ≤ 1000 ∧
  ∀ k a' b' c' H', 0 ≤ k → k < t → (∀ p o, H p = some o → p ≠ u → H' p = some o) → H' u = some (.lst [.int a', .int b', .int c']) → Q (.int k) H'
abbrev n_w_drawn : List Str := ["_law_urn_here", "_law_many", "_law_found", "_law_one", "_law_two"]
theorem sc_w_drawn : FnScope n_w_drawn ["_law_urn_here", "_law_many"] (defScope s_w_drawn) := ⟨rfl, rfl, rfl, by decide +kernel, rfl, by decide +kernel, by decide +kernel⟩
theorem cal_w_drawn (T : Tx P K mg) : Cal P w K mg base 1 "_law_drawn" (sp_w_drawn K) := by
  refine cal_of (k := 0) T.G_w_drawn T.D_w_drawn sc_w_drawn (fun _ _ _ _ _ _ us hl => match us, hl with | [_, _], _ => rfl) (fun vs H Q E h => ?_) (fun cdv A outer s H vs Q E hr h => ?_)
  · obtain ⟨v0, v1, rfl, _⟩ := h
    rfl
  obtain ⟨v0, v1, rfl, h⟩ := h
  refine ⟨_, pss_cons (ps_if (pt_cmpR op_gt (pe_ix (kIxL K) (pv 0) pe_int (fun _ _ => rfl)) pe_int (nomark _))
        (pss_cons (ps_set (i := 2) sc_w_drawn.nd rfl (by first | exact Or.inl rfl | exact Or.inr rfl) (pe_op op_mod (pe_callTy bi_int1 (by rfl) T.N_int (by decide +kernel) (pa_cons (pe_ix (kIxL K) (pv 0) pe_int (fun _ _ => rfl)) pa_nil)) (pv 1)))
      (pss_cons (ps_asg (pe_op op_fdivA (pe_callTy bi_int1 (by rfl) T.N_int (by decide +kernel) (pa_cons (pe_ix (kIxL K) (pv 0) pe_int (fun _ _ => rfl)) pa_nil)) (pv 1)) (pg_sub (pv 0) pe_int set_list))
      (pss_one (ps_ret (pv 2)))))
        (pss_nil))
      (pss_cons (ps_asg (pe_op op_add (pe_ix (kIxL K) (pv 0) pe_int (fun _ _ => rfl)) pe_int) (pg_sub (pv 0) pe_int set_list))
      (pss_cons (ps_set (i := 3) sc_w_drawn.nd rfl (by first | exact Or.inl rfl | exact Or.inr rfl) (pe_op op_mod (pe_callTy bi_int1 (by rfl) T.N_int (by decide +kernel) (pa_cons (pe_op op_add (pe_ix (kIxL K) (pv 0) pe_int (fun _ _ => rfl)) (pe_op op_mul pe_int (pe_ix (kIxL K) (pv 0) pe_int (fun _ _ => rfl)))) pa_nil)) pe_int))
      (pss_cons (ps_set (i := 4) sc_w_drawn.nd rfl (by first | exact Or.inl rfl | exact Or.inr rfl) (pe_op op_mod (pe_callTy bi_int1 (by rfl) T.N_int (by decide +kernel) (pa_cons (pe_op op_add (pe_op op_add (pe_op op_mulW (pv 3) (pv 3)) (pe_op op_mul pe_int (pe_ix (kIxL K) (pv 0) pe_int (fun _ _ => rfl)))) pe_int) pa_nil)) pe_int))
      (pss_one (ps_ret (pe_op op_mod (pe_callTy bi_int1 (by rfl) T.N_int (by decide +kernel) (pa_cons (pe_op op_fdivA (pe_op op_mulW (pv 4) (pe_op op_add (pe_op op_mod (pv 3) pe_int) pe_int)) pe_int) pa_nil)) (pv 1))))))), ?_⟩
  obtain ⟨u, a, b, c, t, rfl, hu, rfl, ht, ht2, k⟩ := h
  have hdiv : CDivA a t := div_of (b := 10) (by omega) (by omega)
  walk_at "rd"
  refine rd_ixC (n := 0) hu ?_
  walk_at "rd"
  refine ite_dec (fun hn => ?_) (fun hn => ?_)
  · walk_at "rd"
    refine rd_ixC (n := 0) hu ?_
    walk_at "rd"
    · refine rd_ixC (n := 0) hu ?_
      walk_at "rd"
      · refine rd_setC (n := 0) hu (fun H2 h3 h2 => ?_) (by show 0 < 3; decide)
        walk_at "rd"
        exact k _ _ _ _ _ (Int.emod_nonneg _ (by omega)) (Int.emod_lt_of_pos _ ht) h3 h2
      · exact hdiv
    · exact ht
  · walk_at "rd"
    refine rd_ixC (n := 2) hu ?_
    walk_at "rd"
    refine rd_setC (n := 2) hu (fun H2 h3 h2 => ?_) (by show 2 < 3; decide)
    walk_at "rd"
    refine rd_ixC (n := 1) h2 ?_
    walk_at "rd"
    · refine rd_ixC (n := 2) h2 ?_
      walk_at "rd"
      · refine rd_ixC (n := 2) h2 ?_
        walk_at "rd"
        · exact k _ _ _ _ _ (Int.emod_nonneg _ (by omega)) (Int.emod_lt_of_pos _ ht) h3 h2
        all_goals first
          | exact ht
          | walk_at "sd"
          | exact div_of (b := 17) (by decide) (by decide)
          | exact mul_of (a := 61) (b := 61) (by omega) (by omega)
      all_goals first
        | walk_at "sd"
        | exact mul_of (a := 61) (b := 61) (by omega) (by omega)
    all_goals walk_at "sd"
/-- the next number below t, from an opaque well -/
def sp_drawn (K : PySem.W.Frag) : Sp := sp2 fun x y H Q _ => ∃ (u : Addr) (t : Int), x = .ref u ∧ H u = some (UrnO u Pu) ∧ y = .int t ∧ 0 < t ∧ t ≤ 1000 ∧ ∀ k H', 0 ≤ k → k < t → Same H H' → Q (.int k) H'
theorem cal_drawn (T : Tx P K mg) : Cal P w K mg base 1 "_law_drawn" (sp_drawn K) := by
  obtain ⟨f, h1, h2, F⟩ := cal_w_drawn (P := P) (w := w) (base := base) T
  refine ⟨f, h1, h2, fnR_urn (p := Pu) F fun vs H Q E h => ?_⟩
  obtain ⟨x, y, rfl, u, t, rfl, hu, rfl, ht, ht2, k⟩ := h
  refine ⟨u, hu, ?_⟩
  rintro xs ⟨a, b, c, rfl⟩
  refine ⟨_, _, rfl, u, a, b, c, t, rfl, upd_same, rfl, ht, ht2, fun i a' b' c' H' h0 h1 hk hu' => ⟨_, ⟨a', b', c', rfl⟩, hu', k i _ h0 h1 fun p o e => ?_⟩⟩
  by_cases z : p = u
  · subst z
    rw [upd_same, ← e, hu]
  · rw [upd_ne z]
    exact hk p o (by rw [upd_ne z]; exact e) z
end
end LW
end
section
set_option Elab.async false
set_option linter.all false
set_option maxRecDepth 100000
set_option maxHeartbeats 4000000
set_option exponentiation.threshold 20000
namespace LW
open PySem PySem.Spec PyProof.Rows L2 Wo
local macro_rules | `(tactic| walk_at "lf") => `(tactic| first | assumption | (refine Up.up (by assumption) ?_; walk_at "lf") | (refine RAll.up (by assumption) ?_; walk_at "lf") | (refine Ob2.up (by assumption) ?_; walk_at "lf"))
local macro_rules | `(tactic| walk_at "side") => `(tactic| first | (unfold CMul; omega) | (unfold CDiv; omega) | (unfold CDivN; omega) | (unfold CPow; omega) | (show (0 : Int) < _; omega) | decide)
local macro_rules | `(tactic| walk_at "rd1") => `(tactic| first
  | ((with_reducible refine rd_var (v := ?v) ?h ?_); (case h => rfl))
  | with_reducible refine rd_c ?_
  | with_reducible refine rd_op ?_
  | with_reducible refine rd_I0 ?_
  | with_reducible refine rd_I ?_ ?_
  | with_reducible refine rd_U ?_
  | with_reducible refine rd_eqI ?_
  | with_reducible refine rd_neI ?_
  | with_reducible refine rd_eqS ?_
  | with_reducible refine rd_neS ?_
  | with_reducible refine rd_un ?_
  | with_reducible refine rd_test ?_
  | with_reducible refine rd_tB ?_
  | with_reducible refine rd_exB ?_
  | with_reducible refine rd_cons ?_
  | with_reducible refine rd_nil ?_
  | with_reducible refine rd_call ?_
  | with_reducible refine rd_cb ?_
  | with_reducible refine rd_seq ?_
  | with_reducible refine rd_asg ?_
  | with_reducible refine rd_gname ?_
  | with_reducible refine rd_ret ?_
  | with_reducible refine rd_ifS ?_
  | with_reducible refine rd_next ?_
  | with_reducible refine rd_drop ?_
  | with_reducible refine rd_if ?_
  | with_reducible refine rd_not ?_
  | with_reducible refine rd_and ?_
  | with_reducible refine rd_or ?_
  | with_reducible refine rd_andV ?_
  | with_reducible refine rd_orV ?_
  | with_reducible refine rd_notV ?_
  | with_reducible refine rd_chain ?_
  | with_reducible refine rd_slot ?_
  | with_reducible refine rd_sst ?_
  | with_reducible refine rd_par ?_
  | with_reducible refine rd_ex2 ?_
  | with_reducible refine rd_gcd ?_
  | with_reducible refine rd_prop ?_
  | with_reducible refine rd_sub ?_
  | with_reducible refine rd_lcm ?_ ?_
  | with_reducible refine rd_forL ?_
  | with_reducible refine rd_forT ?_
  | with_reducible refine rd_forR1 ?_
  | with_reducible refine rd_forZ ?_
  | with_reducible refine rd_lcL ?_
  | with_reducible refine rd_lcT ?_
  | with_reducible refine rd_lcR1 ?_
  | with_reducible refine rd_lcR2 ?_
  | with_reducible refine rd_lcZ ?_
  | with_reducible refine rd_lc2TT ?_
  | with_reducible refine rd_abs ?_
  | with_reducible refine rd_int ?_
  | with_reducible refine rd_intB ?_
  | with_reducible refine rd_max2 ?_
  | with_reducible refine rd_min2 ?_
  | with_reducible refine rd_tup ?_
  | with_reducible refine rd_lst ?_
  | with_reducible refine ite_T ?_
  | with_reducible refine ite_n ?_
  | with_reducible refine ite_y ?_
  | with_reducible refine ite_F ?_
  | with_reducible refine rd_retN ?_)
local macro_rules | `(tactic| walk_at "rd") => `(tactic| repeat walk_at "rd1")
local macro_rules | `(tactic| walk_at "sd") => `(tactic| first | exact Or.inl ⟨by decide, by decide⟩ | exact Or.inr ⟨by decide, by decide⟩ | (show (0 : Int) < _; decide +kernel) | exact ⟨by decide, by decide, by decide +kernel⟩ | exact ⟨by decide, by decide +kernel⟩)
section
variable {P : Program} {w : World} {K : PySem.W.Frag} {mg : Str → Option Value} {base : Heap}
/-- one of a list's items -/
def sp_w_one_of (K : PySem.W.Frag) : Sp := sp2 fun x y H Q _ => ∃ (u : Addr) (α : Type) (R : Rl α) (_ : Up R) (as : List α), x = .ref u ∧ H u = some (UrnO u Pu) ∧ RL K R H y as ∧ 0 < as.length ∧ as.length ≤ 1000 ∧ ∀ a v H', a ∈ as → Same H H' → R H' v a → Q v H'
abbrev n_w_one_of : List Str := ["_law_urn_here", "_law_items"]
theorem sc_w_one_of : FnScope n_w_one_of ["_law_urn_here", "_law_items"] (defScope s_w_one_of) := ⟨rfl, rfl, rfl, by decide +kernel, rfl, by decide +kernel, by decide +kernel⟩
theorem cal_w_one_of (T : Tx P K mg) : Cal P w K mg base 2 "_law_one_of" (sp_w_one_of K) := by
  refine cal_of (k := 1) T.G_w_one_of T.D_w_one_of sc_w_one_of (fun _ _ _ _ _ _ us hl => match us, hl with | [_, _], _ => rfl) (fun vs H Q E h => ?_) (fun cdv A outer s H vs Q E hr h => ?_)
  · obtain ⟨v0, v1, rfl, _⟩ := h
    rfl
  obtain ⟨v0, v1, rfl, h⟩ := h
  refine ⟨_, pss_one (ps_ret (pe_ix (kIxL K) (pv 1) (pc (cal_drawn T) hr (pa_cons (pv 0) (pa_cons (pe_callB (kLen K) (by rfl) T.N_len (by decide +kernel) (pa_cons (pv 1) pa_nil)) pa_nil))) (fun _ _ => rfl))), ?_⟩
  obtain ⟨u, α, R, up, as, rfl, hu, has, h0, h1, k⟩ := h
  walk_at "rd"
  refine rd_lenL has ?_
  walk_at "rd"
  refine ⟨_, _, rfl, u, _, rfl, hu, rfl, by omega, by omega, fun i H' i0 i1 e => ?_⟩
  have hi : i.toNat < as.length := by omega
  exact rd_ixL (n := i.toNat) (a := as[i.toNat]) (Up.up e has) (by simp [hi]) (fun v hv => k _ v H' (List.getElem_mem hi) e hv) (by omega)
/-- Euclid -/
def sp_w_divisor (K : PySem.W.Frag) : Sp := sp2 fun x y H Q _ => ∃ a b : Nat, x = .int a ∧ y = .int b ∧ Q (.int (Nat.gcd a b : Nat)) H
abbrev n_w_divisor : List Str := ["_law_one", "_law_other"]
theorem sc_w_divisor : FnScope n_w_divisor ["_law_one", "_law_other"] (defScope s_w_divisor) := ⟨rfl, rfl, rfl, by decide +kernel, rfl, by decide +kernel, by decide +kernel⟩
theorem cal_w_divisor (T : Tx P K mg) : Cal P w K mg base 1 "_law_divisor" (sp_w_divisor K) := by
  refine cal_of (k := 0) T.G_w_divisor T.D_w_divisor sc_w_divisor (fun _ _ _ _ _ _ us hl => match us, hl with | [_, _], _ => rfl) (fun vs H Q E h => ?_) (fun cdv A outer s H vs Q E hr h => ?_)
  · obtain ⟨v0, v1, rfl, _⟩ := h
    rfl
  obtain ⟨v0, v1, rfl, h⟩ := h
  refine ⟨_, pss_cons (ps_while (passes_of rfl) (pt_cmpR op_gt (pv 1) pe_int (nomark _))
        (pss_one (ps_par (i := 0) (j := 1) (by rfl) sc_w_divisor.nd rfl rfl (by decide) rfl rfl (pa_cons (pv 1) (pa_cons (pe_op op_mod (pe_callTy bi_int1 (by rfl) T.N_int (by decide +kernel) (pa_cons (pv 0) pa_nil)) (pv 1)) pa_nil)) (by rfl))))
      (pss_one (ps_ret (pv 0))), ?_⟩
  obtain ⟨a, b, rfl, rfl, k⟩ := h
  walk_at "rd"
  refine ⟨fun m σ' H' => H' = H ∧ ∃ x y : Nat, σ' = [some (.int (x : Nat)), some (.int (y : Nat))] ∧ m = y ∧ Nat.gcd x y = Nat.gcd a b, ⟨_, rfl, _, _, rfl, rfl, rfl⟩, ?_⟩
  rintro m σ' H' ⟨rfl, x, y, rfl, rfl, hg⟩
  walk_at "rd"
  refine ite_dec (fun hy => ?_) (fun hy => ?_)
  · refine ⟨fun σ' H'' => ∃ m', m' < m ∧ H'' = H' ∧ ∃ x y : Nat, σ' = [some (.int (x : Nat)), some (.int (y : Nat))] ∧ m' = y ∧ Nat.gcd x y = Nat.gcd a b, fun _ _ h => h, ?_⟩
    walk_at "rd"
    · refine ⟨x % m, Nat.mod_lt _ (by omega), rfl, m, x % m, ?_, rfl, ?_⟩
      · rw [Int.natCast_emod]
        rfl
      · rw [← hg, Nat.gcd_comm x m, Nat.gcd_rec m x, Nat.gcd_comm]
    · exact hy
  · have hy0 : m = 0 := by omega
    subst hy0
    rw [Nat.gcd_zero_right] at hg
    subst hg
    walk_at "rd"
    exact k
/-- a ratio as a pair of ints -/
def RQP (K : PySem.W.Frag) : Rl Rat := fun H v q => RP K RI RI H v (q.num, (q.den : Int))
instance {K : PySem.W.Frag} : Up (RQP K) := ⟨fun e h => Up.up (R := RP K RI RI) e h⟩
def sp_w_lowest (K : PySem.W.Frag) : Sp := sp2 fun x y H Q _ => ∃ t b : Int, x = .int t ∧ y = .int b ∧ b ≠ 0 ∧ t.natAbs < 2 ^ 13500 ∧ b.natAbs < 2 ^ 13500 ∧ ∀ v H', Same H H' → RQP K H' v (Rat.divInt t b) → Q v H'
abbrev n_w_lowest : List Str := ["_law_top", "_law_bottom", "_law_part"]
theorem sc_w_lowest : FnScope n_w_lowest ["_law_top", "_law_bottom"] (defScope s_w_lowest) := ⟨rfl, rfl, rfl, by decide +kernel, rfl, by decide +kernel, by decide +kernel⟩
theorem cal_w_lowest (T : Tx P K mg) : Cal P w K mg base 2 "_law_lowest" (sp_w_lowest K) := by
  refine cal_of (k := 1) T.G_w_lowest T.D_w_lowest sc_w_lowest (fun _ _ _ _ _ _ us hl => match us, hl with | [_, _], _ => rfl) (fun vs H Q E h => ?_) (fun cdv A outer s H vs Q E hr h => ?_)
  · obtain ⟨v0, v1, rfl, _⟩ := h
    rfl
  obtain ⟨v0, v1, rfl, h⟩ := h
  refine ⟨_, pss_cons (ps_set (i := 2) sc_w_lowest.nd rfl (by first | exact Or.inl rfl | exact Or.inr rfl) (pc (cal_w_divisor T) hr (pa_cons (pe_callB bi_abs (by rfl) T.N_abs (by decide +kernel) (pa_cons (pv 0) pa_nil)) (pa_cons (pe_callB bi_abs (by rfl) T.N_abs (by decide +kernel) (pa_cons (pv 1) pa_nil)) pa_nil))))
      (pss_cons (ps_set (i := 2) sc_w_lowest.nd rfl (by first | exact Or.inl rfl | exact Or.inr rfl) (pe_ifExp (pt_cmpR op_gt (pv 1) pe_int (nomark _)) (pv 2) (pe_un un_neg (pv 2))))
      (pss_one (ps_ret (pe_tup (pa_cons (pe_op op_fdivA (pe_callTy bi_int1 (by rfl) T.N_int (by decide +kernel) (pa_cons (pv 0) pa_nil)) (pv 2)) (pa_cons (pe_op op_fdivA (pe_callTy bi_int1 (by rfl) T.N_int (by decide +kernel) (pa_cons (pv 1) pa_nil)) (pv 2)) pa_nil)))))), ?_⟩
  obtain ⟨t, b, rfl, rfl, hb, ht, hs, k⟩ := h
  obtain ⟨g1, g2, g3⟩ := gcd_lt2 (t := t) hb hs
  walk_at "rd"
  refine ⟨_, _, rfl, t.natAbs, b.natAbs, rfl, rfl, ?_⟩
  walk_at "rd"
  refine ite_dec (fun hn => ?_) (fun hn => ?_)
  · walk_at "rd"
    · refine ⟨by show 2 ≤ sizeLine; decide, fun p hp => k _ _ (Same.new hp) ?_⟩
      exact RP.at upd_same (by show V.int _ = V.int _; rw [low_num (t := t) hn]) (by show V.int _ = V.int _; rw [low_den (t := t) hn])
    · exact div_near g3 hs
    · exact div_near g3 ht
  · walk_at "rd"
    · refine ⟨by show 2 ≤ sizeLine; decide, fun p hp => k _ _ (Same.new hp) ?_⟩
      exact RP.at upd_same (by show V.int _ = V.int _; rw [low_numN (t := t) (by omega)]) (by show V.int _ = V.int _; rw [low_denN (t := t) (by omega)])
    · exact div_near (by omega) hs
    · exact div_near (by omega) ht
end
end LW
end
section
set_option Elab.async false
set_option linter.all false
set_option maxRecDepth 100000
set_option maxHeartbeats 4000000
set_option exponentiation.threshold 20000
namespace LW
open PySem PySem.Spec PyProof.Rows L2 Wo
local macro_rules | `(tactic| walk_at "lf") => `(tactic| first | assumption | (refine Up.up (by assumption) ?_; walk_at "lf") | (refine RAll.up (by assumption) ?_; walk_at "lf") | (refine Ob2.up (by assumption) ?_; walk_at "lf"))
local macro_rules | `(tactic| walk_at "side") => `(tactic| first | (unfold CMul; omega) | (unfold CDiv; omega) | (unfold CDivN; omega) | (unfold CPow; omega) | (show (0 : Int) < _; omega) | decide)
local macro_rules | `(tactic| walk_at "rd1") => `(tactic| first
  | ((with_reducible refine rd_var (v := ?v) ?h ?_); (case h => rfl))
  | with_reducible refine rd_c ?_
  | with_reducible refine rd_op ?_
  | with_reducible refine rd_I0 ?_
  | with_reducible refine rd_I ?_ ?_
  | with_reducible refine rd_U ?_
  | with_reducible refine rd_eqI ?_
  | with_reducible refine rd_neI ?_
  | with_reducible refine rd_eqS ?_
  | with_reducible refine rd_neS ?_
  | with_reducible refine rd_un ?_
  | with_reducible refine rd_test ?_
  | with_reducible refine rd_tB ?_
  | with_reducible refine rd_exB ?_
  | with_reducible refine rd_cons ?_
  | with_reducible refine rd_nil ?_
  | with_reducible refine rd_call ?_
  | with_reducible refine rd_cb ?_
  | with_reducible refine rd_seq ?_
  | with_reducible refine rd_asg ?_
  | with_reducible refine rd_gname ?_
  | with_reducible refine rd_ret ?_
  | with_reducible refine rd_ifS ?_
  | with_reducible refine rd_next ?_
  | with_reducible refine rd_drop ?_
  | with_reducible refine rd_if ?_
  | with_reducible refine rd_not ?_
  | with_reducible refine rd_and ?_
  | with_reducible refine rd_or ?_
  | with_reducible refine rd_andV ?_
  | with_reducible refine rd_orV ?_
  | with_reducible refine rd_notV ?_
  | with_reducible refine rd_chain ?_
  | with_reducible refine rd_slot ?_
  | with_reducible refine rd_sst ?_
  | with_reducible refine rd_par ?_
  | with_reducible refine rd_ex2 ?_
  | with_reducible refine rd_gcd ?_
  | with_reducible refine rd_prop ?_
  | with_reducible refine rd_sub ?_
  | with_reducible refine rd_lcm ?_ ?_
  | with_reducible refine rd_forL ?_
  | with_reducible refine rd_forT ?_
  | with_reducible refine rd_forR1 ?_
  | with_reducible refine rd_forZ ?_
  | with_reducible refine rd_lcL ?_
  | with_reducible refine rd_lcT ?_
  | with_reducible refine rd_lcR1 ?_
  | with_reducible refine rd_lcR2 ?_
  | with_reducible refine rd_lcZ ?_
  | with_reducible refine rd_lc2TT ?_
  | with_reducible refine rd_abs ?_
  | with_reducible refine rd_int ?_
  | with_reducible refine rd_intB ?_
  | with_reducible refine rd_max2 ?_
  | with_reducible refine rd_min2 ?_
  | with_reducible refine rd_tup ?_
  | with_reducible refine rd_lst ?_
  | with_reducible refine ite_T ?_
  | with_reducible refine ite_n ?_
  | with_reducible refine ite_y ?_
  | with_reducible refine ite_F ?_
  | with_reducible refine rd_retN ?_)
local macro_rules | `(tactic| walk_at "rd") => `(tactic| repeat walk_at "rd1")
local macro_rules | `(tactic| walk_at "sd") => `(tactic| first | exact Or.inl ⟨by decide, by decide⟩ | exact Or.inr ⟨by decide, by decide⟩ | (show (0 : Int) < _; decide +kernel) | exact ⟨by decide, by decide, by decide +kernel⟩ | exact ⟨by decide, by decide +kernel⟩)
section
variable {P : Program} {w : World} {K : PySem.W.Frag} {mg : Str → Option Value} {base : Heap}
theorem rgI_len {n : Nat} : (rgI 0 n).length = n := by simp [rgI]
theorem pow10 {i : Nat} (h : i ≤ 60) : ((10 : Int) ^ i).natAbs < 2 ^ 200 := by
  rw [Int.natAbs_pow]
  exact Nat.lt_of_le_of_lt (Nat.pow_le_pow_right (by decide) h) (by decide +kernel)
def sp_w_power (K : PySem.W.Frag) : Sp := sp2 fun x y H Q _ => ∃ n : Nat, x = .int 10 ∧ y = .int n ∧ n ≤ 60 ∧ ∀ H', Same H H' → Q (.int (10 ^ n)) H'
abbrev n_w_power : List Str := ["_law_base", "_law_times", "_law_found", "_law_lap"]
theorem sc_w_power : FnScope n_w_power ["_law_base", "_law_times"] (defScope s_w_power) := ⟨rfl, rfl, rfl, by decide +kernel, rfl, by decide +kernel, by decide +kernel⟩
theorem cal_w_power (T : Tx P K mg) : Cal P w K mg base 1 "_law_power" (sp_w_power K) := by
  refine cal_of (k := 0) T.G_w_power T.D_w_power sc_w_power (fun _ _ _ _ _ _ us hl => match us, hl with | [_, _], _ => rfl) (fun vs H Q E h => ?_) (fun cdv A outer s H vs Q E hr h => ?_)
  · obtain ⟨v0, v1, rfl, _⟩ := h
    rfl
  obtain ⟨v0, v1, rfl, h⟩ := h
  refine ⟨_, pss_cons (ps_set (i := 2) sc_w_power.nd rfl (by first | exact Or.inl rfl | exact Or.inr rfl) pe_int)
      (pss_cons (ps_for (passes_of rfl) rfl (pi_range1 rfl T.N_range (pa_cons (pv 1) pa_nil)) (pg_name (i := 3) sc_w_power.nd rfl (by first | exact Or.inl rfl | exact Or.inr rfl))
        (pss_one (ps_set (i := 2) sc_w_power.nd rfl (by first | exact Or.inl rfl | exact Or.inr rfl) (pe_op op_mulW (pv 2) (pv 0)))))
      (pss_one (ps_ret (pv 2)))), ?_⟩
  obtain ⟨n, rfl, rfl, hn, k⟩ := h
  walk_at "rd"
  refine forR1 (by omega) (by omega) fun J W => ?_
  refine forK W (fun i σ' H' => Same H H' ∧ ∃ v, σ' = [some (.int 10), some (.int n), some (.int (10 ^ i)), v]) ⟨Same.refl _, none, rfl⟩ (fun i σ' H' h => h.1) ?_ ?_
  · rintro i σ' H' a x H'' hi ⟨e, v, rfl⟩ e1 e2 hx
    have hl : i < n := by
      have := (List.getElem?_eq_some_iff.mp hi).1
      rw [rgI_len] at this
      omega
    walk_at "rd"
    · exact ⟨e2, some x, by rw [Int.pow_succ]; rfl⟩
    · exact mul_of (a := 200) (b := 10) (pow10 (by omega)) (by decide)
  · rintro σ' H' ⟨e, v, rfl⟩
    walk_at "rd"
    rw [rgI_len, Int.toNat_natCast]
    exact k _ e
end
end LW
end
section
set_option Elab.async false
set_option linter.all false
set_option maxRecDepth 100000
set_option maxHeartbeats 4000000
set_option exponentiation.threshold 20000
namespace LW
open PySem PySem.Spec PyProof.Rows L2 Wo
local macro_rules | `(tactic| walk_at "lf") => `(tactic| first | assumption | (refine Up.up (by assumption) ?_; walk_at "lf") | (refine RAll.up (by assumption) ?_; walk_at "lf") | (refine Ob2.up (by assumption) ?_; walk_at "lf"))
local macro_rules | `(tactic| walk_at "side") => `(tactic| first | (unfold CMul; omega) | (unfold CDiv; omega) | (unfold CDivN; omega) | (unfold CPow; omega) | (show (0 : Int) < _; omega) | decide)
local macro_rules | `(tactic| walk_at "rd1") => `(tactic| first
  | ((with_reducible refine rd_var (v := ?v) ?h ?_); (case h => rfl))
  | with_reducible refine rd_c ?_
  | with_reducible refine rd_op ?_
  | with_reducible refine rd_I0 ?_
  | with_reducible refine rd_I ?_ ?_
  | with_reducible refine rd_U ?_
  | with_reducible refine rd_eqI ?_
  | with_reducible refine rd_neI ?_
  | with_reducible refine rd_eqS ?_
  | with_reducible refine rd_neS ?_
  | with_reducible refine rd_un ?_
  | with_reducible refine rd_test ?_
  | with_reducible refine rd_tB ?_
  | with_reducible refine rd_exB ?_
  | with_reducible refine rd_cons ?_
  | with_reducible refine rd_nil ?_
  | with_reducible refine rd_call ?_
  | with_reducible refine rd_cb ?_
  | with_reducible refine rd_seq ?_
  | with_reducible refine rd_asg ?_
  | with_reducible refine rd_gname ?_
  | with_reducible refine rd_ret ?_
  | with_reducible refine rd_ifS ?_
  | with_reducible refine rd_next ?_
  | with_reducible refine rd_drop ?_
  | with_reducible refine rd_if ?_
  | with_reducible refine rd_not ?_
  | with_reducible refine rd_and ?_
  | with_reducible refine rd_or ?_
  | with_reducible refine rd_andV ?_
  | with_reducible refine rd_orV ?_
  | with_reducible refine rd_notV ?_
  | with_reducible refine rd_chain ?_
  | with_reducible refine rd_slot ?_
  | with_reducible refine rd_sst ?_
  | with_reducible refine rd_par ?_
  | with_reducible refine rd_ex2 ?_
  | with_reducible refine rd_gcd ?_
  | with_reducible refine rd_prop ?_
  | with_reducible refine rd_sub ?_
  | with_reducible refine rd_lcm ?_ ?_
  | with_reducible refine rd_forL ?_
  | with_reducible refine rd_forT ?_
  | with_reducible refine rd_forR1 ?_
  | with_reducible refine rd_forZ ?_
  | with_reducible refine rd_lcL ?_
  | with_reducible refine rd_lcT ?_
  | with_reducible refine rd_lcR1 ?_
  | with_reducible refine rd_lcR2 ?_
  | with_reducible refine rd_lcZ ?_
  | with_reducible refine rd_lc2TT ?_
  | with_reducible refine rd_abs ?_
  | with_reducible refine rd_int ?_
  | with_reducible refine rd_intB ?_
  | with_reducible refine rd_max2 ?_
  | with_reducible refine rd_min2 ?_
  | with_reducible refine rd_tup ?_
  | with_reducible refine rd_lst ?_
  | with_reducible refine ite_T ?_
  | with_reducible refine ite_n ?_
  | with_reducible refine ite_y ?_
  | with_reducible refine ite_F ?_
  | with_reducible refine rd_retN ?_)
local macro_rules | `(tactic| walk_at "rd") => `(tactic| repeat walk_at "rd1")
local macro_rules | `(tactic| walk_at "sd") => `(tactic| first | exact Or.inl ⟨by decide, by decide⟩ | exact Or.inr ⟨by decide, by decide⟩ | (show (0 : Int) < _; decide +kernel) | exact ⟨by decide, by decide, by decide +kernel⟩ | exact ⟨by decide, by decide +kernel⟩)
section
variable {P : Program} {w : World} {K : PySem.W.Frag} {mg : Str → Option Value} {base : Heap}
theorem pow_up {m n : Nat} (h : m ≤ n) : (10 : Int) ^ m ≤ 10 ^ n := by
  have := Nat.pow_le_pow_right (n := 10) (by decide) h
  exact_mod_cast this
theorem pow11 {i : Nat} (h : i ≤ 40) : (11 : Nat) ^ i ≤ 11 ^ 40 := Nat.pow_le_pow_right (by decide) h
def sp_w_whole (K : PySem.W.Frag) : Sp := sp1 fun x H Q _ => ∃ u, x = .ref u ∧ H u = some (UrnO u Pu) ∧ ∀ (i : Int) H', -(10 ^ 60) < i ∧ i < 10 ^ 60 → Same H H' → Q (.int i) H'
abbrev n_w_whole : List Str := ["_law_urn_here", "_law_way", "_law_found", "_law_lap"]
theorem sc_w_whole : FnScope n_w_whole ["_law_urn_here"] (defScope s_w_whole) := ⟨rfl, rfl, rfl, by decide +kernel, rfl, by decide +kernel, by decide +kernel⟩
theorem cal_w_whole (T : Tx P K mg) : Cal P w K mg base 3 "_law_whole" (sp_w_whole K) := by
  refine cal_of (k := 2) T.G_w_whole T.D_w_whole sc_w_whole (fun _ _ _ _ _ _ us hl => match us, hl with | [_], _ => rfl) (fun vs H Q E h => ?_) (fun cdv A outer s H vs Q E hr h => ?_)
  · obtain ⟨v0, rfl, _⟩ := h
    rfl
  obtain ⟨v0, rfl, h⟩ := h
  refine ⟨_, pss_cons (ps_set (i := 1) sc_w_whole.nd rfl (by first | exact Or.inl rfl | exact Or.inr rfl) (pc (cal_drawn T) hr (pa_cons (pv 0) (pa_cons pe_int pa_nil))))
      (pss_cons (ps_if (pt_cmpR op_eq (pv 1) pe_int (nomark _))
        (pss_one (ps_ret (pc (cal_w_one_of T) hr (pa_cons (pv 0) (pa_cons (pe_lst (pa_cons pe_int (pa_cons pe_int (pa_cons (pe_un un_neg pe_int) (pa_cons (pe_op op_sub (pe_op op_pow pe_int pe_int) pe_int) (pa_cons (pe_op op_sub pe_int (pe_op op_pow pe_int pe_int)) (pa_cons (pe_op op_pow pe_int pe_int) (pa_cons (pe_un un_neg (pe_op op_pow pe_int pe_int)) pa_nil)))))))) pa_nil)))))
        (pss_nil))
      (pss_cons (ps_if (pt_cmpR op_eq (pv 1) pe_int (nomark _))
        (pss_one (ps_ret (pe_op op_sub (pe_op op_add (pc (cal_w_power T) hr (pa_cons pe_int (pa_cons (pc (cal_drawn T) hr (pa_cons (pv 0) (pa_cons pe_int pa_nil))) pa_nil))) (pc (cal_drawn T) hr (pa_cons (pv 0) (pa_cons pe_int pa_nil)))) pe_int)))
        (pss_nil))
      (pss_cons (ps_if (pt_cmpR op_eq (pv 1) pe_int (nomark _))
        (pss_cons (ps_set (i := 2) sc_w_whole.nd rfl (by first | exact Or.inl rfl | exact Or.inr rfl) (pe_op op_sub pe_int (pe_op op_mul pe_int (pc (cal_drawn T) hr (pa_cons (pv 0) (pa_cons pe_int pa_nil))))))
      (pss_cons (ps_for (passes_of rfl) rfl (pi_range1 rfl T.N_range (pa_cons (pc (cal_drawn T) hr (pa_cons (pv 0) (pa_cons pe_int pa_nil))) pa_nil)) (pg_name (i := 3) sc_w_whole.nd rfl (by first | exact Or.inl rfl | exact Or.inr rfl))
        (pss_one (ps_set (i := 2) sc_w_whole.nd rfl (by first | exact Or.inl rfl | exact Or.inr rfl) (pe_op op_mulW (pv 2) (pc (cal_w_one_of T) hr (pa_cons (pv 0) (pa_cons (pe_lst (pa_cons pe_int (pa_cons pe_int (pa_cons pe_int (pa_cons pe_int (pa_cons pe_int (pa_cons pe_int pa_nil))))))) pa_nil)))))))
      (pss_one (ps_ret (pv 2)))))
        (pss_nil))
      (pss_one (ps_ret (pe_op op_sub (pc (cal_drawn T) hr (pa_cons (pv 0) (pa_cons pe_int pa_nil))) pe_int)))))), ?_⟩
  obtain ⟨u, rfl, hu, k⟩ := h
  walk_at "rd"
  refine ⟨_, _, rfl, u, _, rfl, hu, rfl, by decide, by decide, fun way H1 w0 w1 e1 => ?_⟩
  walk_at "rd"
  refine ite_dec (fun h0 => ?_) (fun h0 => ?_)
  · walk_at "rd"
    · refine ⟨by show 7 ≤ sizeLine; decide, fun p hp => ?_⟩
      generalize he : upd _ _ _ = H2
      have e2 := he ▸ Same.new (o := .lst _) hp
      have e := he ▸ (upd_same (o := .lst _))
      walk_at "rd"
      refine ⟨_, _, rfl, u, Int, RI, inferInstance, [0, 1, -1, 10 ^ 60 - 1, 1 - 10 ^ 60, 2 ^ 64, -2 ^ 63], rfl, e2 _ _ (e1 _ _ hu), RL.at e (RAll.ints (ns := [0, 1, -1, 10 ^ 60 - 1, 1 - 10 ^ 60, 2 ^ 64, -2 ^ 63])) (by decide), by decide, by decide, fun a v H3 ha e3 hv => ?_⟩
      obtain rfl := hv
      refine k _ _ ?_ ((e1.trans e2).trans e3)
      revert a
      decide
    all_goals walk_at "sd"
  walk_at "rd"
  refine ite_dec (fun h1 => ?_) (fun h1 => ?_)
  · walk_at "rd"
    refine ⟨_, _, rfl, u, _, rfl, e1 _ _ hu, rfl, by decide, by decide, fun i H2 i0 i1 e2 => ?_⟩
    walk_at "rd"
    obtain ⟨n, rfl⟩ := Int.eq_ofNat_of_zero_le i0
    refine ⟨_, _, rfl, n, rfl, rfl, by omega, fun H3 e3 => ?_⟩
    walk_at "rd"
    refine ⟨_, _, rfl, u, _, rfl, e3 _ _ (e2 _ _ (e1 _ _ hu)), rfl, by decide, by decide, fun j H4 j0 j1 e4 => ?_⟩
    walk_at "rd"
    refine k _ _ ?_ (((e1.trans e2).trans e3).trans e4)
    have hp : (10 : Int) ^ n ≤ 10 ^ 58 := pow_up (by omega)
    have hp0 : (0 : Int) < 10 ^ n := Int.pow_pos (by decide)
    have : (10 : Int) ^ 58 + 2 < 10 ^ 60 := by decide
    omega
  walk_at "rd"
  refine ite_dec (fun h2 => ?_) (fun h2 => ?_)
  · walk_at "rd"
    refine ⟨_, _, rfl, u, _, rfl, e1 _ _ hu, rfl, by decide, by decide, fun s0 H2 i0 i1 e2 => ?_⟩
    walk_at "rd"
    refine ⟨_, _, rfl, u, _, rfl, e2 _ _ (e1 _ _ hu), rfl, by decide, by decide, fun n H3 n0 n1 e3 => ?_⟩
    walk_at "rd"
    refine forR1 (by omega) (by omega) fun J W => ?_
    refine forK W (fun i σ' H' => Same H3 H' ∧ ∃ (f : Int) (v : Option V), f.natAbs ≤ 11 ^ i ∧ σ' = [some (.ref u), some (.int way), some (.int f), v]) ⟨Same.refl _, _, none, ?_, rfl⟩ (fun i σ' H' h => h.1) ?_ ?_
    · show Int.natAbs _ ≤ 1
      omega
    · rintro i σ' H' a x H'' hi ⟨e, f, o, hf, rfl⟩ e4 e5 hx
      have hl : i < 40 := by
        have := (List.getElem?_eq_some_iff.mp hi).1
        rw [Wo.rgI_len] at this
        omega
      walk_at "rd"
      refine ⟨by show 6 ≤ sizeLine; decide, fun p hp => ?_⟩
      generalize he : upd _ _ _ = H5
      have e6 := he ▸ Same.new (o := .lst _) hp
      have e7 := he ▸ (upd_same (o := .lst _))
      walk_at "rd"
      walk_at "rd"
      refine ⟨_, _, rfl, u, Int, RI, inferInstance, [2, 3, 5, 7, 2, 11], rfl, e6 _ _ (e5 _ _ (e3 _ _ (e2 _ _ (e1 _ _ hu)))), RL.at e7 (RAll.ints (ns := [2, 3, 5, 7, 2, 11])) (by show 6 ≤ sizeLine; decide), by decide, by decide, fun q v6 H6 hq e8 hv => ?_⟩
      obtain rfl := hv
      have hq : q.natAbs ≤ 11 := by
        revert q
        decide
      walk_at "rd"
      · refine ⟨(e5.trans e6).trans e8, f * q, some x, ?_, rfl⟩
        rw [Int.natAbs_mul, Nat.pow_succ]
        exact Nat.mul_le_mul hf hq
      · exact mul_of (a := 200) (b := 4) (Nat.lt_of_le_of_lt (Nat.le_trans hf (pow11 (by omega))) (by decide +kernel)) (by omega)
    · rintro σ' H' ⟨e, f, o, hf, rfl⟩
      walk_at "rd"
      refine k _ _ ?_ (((e1.trans e2).trans e3).trans e)
      rw [Wo.rgI_len] at hf
      have h40 : (11 : Nat) ^ n.toNat ≤ 11 ^ 40 := pow11 (by omega)
      have : (11 : Nat) ^ 40 < 10 ^ 60 := by decide +kernel
      have h60 : ((10 : Nat) ^ 60 : Nat) = (10 : Int) ^ 60 := by decide
      omega
    · unfold CMul
      omega
  walk_at "rd"
  refine ⟨_, _, rfl, u, _, rfl, e1 _ _ hu, rfl, by decide, by decide, fun i H2 i0 i1 e2 => ?_⟩
  walk_at "rd"
  exact k _ _ (by omega) (e1.trans e2)
end
end LW
end
section
set_option Elab.async false
set_option linter.all false
set_option maxRecDepth 100000
set_option maxHeartbeats 4000000
set_option pp.maxSteps 700
set_option exponentiation.threshold 20000
namespace LW
open PySem PySem.Spec PyProof.Rows L2 Wo
local macro_rules | `(tactic| walk_at "lf") => `(tactic| first | assumption | (refine Up.up (by assumption) ?_; walk_at "lf") | (refine RAll.up (by assumption) ?_; walk_at "lf") | (refine Ob2.up (by assumption) ?_; walk_at "lf"))
local macro_rules | `(tactic| walk_at "side") => `(tactic| first | (unfold CMul; omega) | (unfold CDiv; omega) | (unfold CDivN; omega) | (unfold CPow; omega) | (show (0 : Int) < _; omega) | decide)
local macro_rules | `(tactic| walk_at "rd1") => `(tactic| first
  | ((with_reducible refine rd_var (v := ?v) ?h ?_); (case h => rfl))
  | with_reducible refine rd_c ?_
  | with_reducible refine rd_op ?_
  | with_reducible refine rd_I0 ?_
  | with_reducible refine rd_I ?_ ?_
  | with_reducible refine rd_U ?_
  | with_reducible refine rd_eqI ?_
  | with_reducible refine rd_neI ?_
  | with_reducible refine rd_eqS ?_
  | with_reducible refine rd_neS ?_
  | with_reducible refine rd_un ?_
  | with_reducible refine rd_test ?_
  | with_reducible refine rd_tB ?_
  | with_reducible refine rd_exB ?_
  | with_reducible refine rd_cons ?_
  | with_reducible refine rd_nil ?_
  | with_reducible refine rd_call ?_
  | with_reducible refine rd_cb ?_
  | with_reducible refine rd_seq ?_
  | with_reducible refine rd_asg ?_
  | with_reducible refine rd_gname ?_
  | with_reducible refine rd_ret ?_
  | with_reducible refine rd_ifS ?_
  | with_reducible refine rd_next ?_
  | with_reducible refine rd_drop ?_
  | with_reducible refine rd_if ?_
  | with_reducible refine rd_not ?_
  | with_reducible refine rd_and ?_
  | with_reducible refine rd_or ?_
  | with_reducible refine rd_andV ?_
  | with_reducible refine rd_orV ?_
  | with_reducible refine rd_notV ?_
  | with_reducible refine rd_chain ?_
  | with_reducible refine rd_slot ?_
  | with_reducible refine rd_sst ?_
  | with_reducible refine rd_par ?_
  | with_reducible refine rd_ex2 ?_
  | with_reducible refine rd_gcd ?_
  | with_reducible refine rd_prop ?_
  | with_reducible refine rd_sub ?_
  | with_reducible refine rd_lcm ?_ ?_
  | with_reducible refine rd_forL ?_
  | with_reducible refine rd_forT ?_
  | with_reducible refine rd_forR1 ?_
  | with_reducible refine rd_forZ ?_
  | with_reducible refine rd_lcL ?_
  | with_reducible refine rd_lcT ?_
  | with_reducible refine rd_lcR1 ?_
  | with_reducible refine rd_lcR2 ?_
  | with_reducible refine rd_lcZ ?_
  | with_reducible refine rd_lc2TT ?_
  | with_reducible refine rd_abs ?_
  | with_reducible refine rd_int ?_
  | with_reducible refine rd_intB ?_
  | with_reducible refine rd_max2 ?_
  | with_reducible refine rd_min2 ?_
  | with_reducible refine rd_tup ?_
  | with_reducible refine rd_lst ?_
  | with_reducible refine ite_T ?_
  | with_reducible refine ite_n ?_
  | with_reducible refine ite_y ?_
  | with_reducible refine ite_F ?_
  | with_reducible refine rd_retN ?_)
local macro_rules | `(tactic| walk_at "rd") => `(tactic| repeat walk_at "rd1")
local macro_rules | `(tactic| walk_at "sd") => `(tactic| first | exact Or.inl ⟨by decide, by decide⟩ | exact Or.inr ⟨by decide, by decide⟩ | (show (0 : Int) < _; decide +kernel) | exact ⟨by decide, by decide, by decide +kernel⟩ | exact ⟨by decide, by decide +kernel⟩)
section
variable {P : Program} {w : World} {K : PySem.W.Frag} {mg : Str → Option Value} {base : Heap}
set_option hygiene false in
local macro_rules | `(tactic| walk_at "rt") => `(tactic| first
  | walk_at "rd1"
  | with_reducible refine rd_exI ?_
  | with_reducible refine rd_sl ?_
  | with_reducible refine rd_noPart ?_
  | with_reducible refine rd_part ?_
  | with_reducible refine rd_forR2 ?_
  | with_reducible refine rd_gSub ?_
  | with_reducible refine rd_lcR2f ?_
  | with_reducible refine rd_bm ?_
  | with_reducible refine rd_negW ?_
  | with_reducible refine rd_callW ?_)
theorem rd_q0 {H : Hp} {v : V} {q : Rat} {Q : VK} (h : RQP K H v q) (k : Q (.int q.num) H) : rIxT K v (.int 0) H Q := by
  obtain ⟨p, x, y, rfl, hs, hx, hy⟩ := h
  obtain rfl := hx
  exact ⟨p, [_, y], _, _, rfl, rfl, hs, atI_nat (j := 0) (by rfl), k⟩
theorem rd_q1 {H : Hp} {v : V} {q : Rat} {Q : VK} (h : RQP K H v q) (k : Q (.int q.den) H) : rIxT K v (.int 1) H Q := by
  obtain ⟨p, x, y, rfl, hs, hx, hy⟩ := h
  obtain rfl := hy
  exact ⟨p, [x, _], _, _, rfl, rfl, hs, atI_nat (j := 1) (by rfl), k⟩
theorem rd_strI {i : Int} {P : Int → Prop} (h : i.natAbs < 10 ^ 60) (q : P i) : ∃ j, [V.int i] = [.int j] ∧ j.natAbs.log2 < 1920 ∧ P j := by
  refine ⟨i, rfl, ?_, q⟩
  by_cases h0 : i.natAbs = 0
  · rw [h0]; decide
  · exact (Nat.log2_lt h0).mpr (Nat.lt_of_lt_of_le h (by decide +kernel))
theorem shown61 {i : Int} (h : i.natAbs < 10 ^ 60) : (shown i).length ≤ 61 := by unfold shown; rw [Array.length_toList]; exact shown_len h (by decide)
theorem sm_den {q : Rat} (h : Sm60 q) : ((q.den : Int)).natAbs < 10 ^ 60 := h.2
def sp_w_text (K : PySem.W.Frag) : Sp := sp1 fun x H Q _ => ∃ q : Rat, RQP K H x q ∧ Sm60 q ∧ Q (.str (tx (line q.num q.den))) H
abbrev n_w_text : List Str := ["_law_pair"]
theorem sc_w_text : FnScope n_w_text ["_law_pair"] (defScope s_w_text) := ⟨rfl, rfl, rfl, by decide +kernel, rfl, by decide +kernel, by decide +kernel⟩
theorem cal_w_text (T : Tx P K mg) : Cal P w K mg base 1 "_law_text" (sp_w_text K) := by
  refine cal_of (k := 0) T.G_w_text T.D_w_text sc_w_text (fun _ _ _ _ _ _ us hl => match us, hl with | [_], _ => rfl) (fun vs H Q E h => ?_) (fun cdv A outer s H vs Q E hr h => ?_)
  · obtain ⟨v0, rfl, _⟩ := h
    rfl
  obtain ⟨v0, rfl, h⟩ := h
  refine ⟨_, pss_one (ps_ret (pe_op op_add_str (pe_callTy call_str_int (by rfl) T.N_str (by decide +kernel) (pa_cons (pe_ix (kIxT K) (pv 0) pe_int (fun _ _ => rfl)) pa_nil)) (pe_ifExp (pt_cmpR op_eq (pe_ix (kIxT K) (pv 0) pe_int (fun _ _ => rfl)) pe_int (nomark _)) pe_str (pe_op op_add_str pe_str (pe_callTy call_str_int (by rfl) T.N_str (by decide +kernel) (pa_cons (pe_ix (kIxT K) (pv 0) pe_int (fun _ _ => rfl)) pa_nil)))))), ?_⟩
  obtain ⟨q, hq, hs, k⟩ := h
  have z1 := shown61 hs.1
  have z2 := shown61 (sm_den hs)
  repeat walk_at "rt"
  refine rd_q0 hq ?_
  repeat walk_at "rt"
  refine rd_strI hs.1 ?_
  repeat walk_at "rt"
  refine rd_q1 hq ?_
  repeat walk_at "rt"
  refine ite_dec (fun h3 => ?_) (fun h3 => ?_)
  · have h3 : q.den = 1 := by omega
    repeat walk_at "rt"
    refine rd_addS (l := shown q.num) (m := []) (by show (shown q.num).length + 0 ≤ _; omega) ?_
    rw [tx_app]
    unfold line at k
    rw [if_pos h3] at k
    exact k
  · have h3 : q.den ≠ 1 := by omega
    repeat walk_at "rt"
    refine rd_q1 hq ?_
    repeat walk_at "rt"
    refine rd_strI (sm_den hs) ?_
    repeat walk_at "rt"
    refine rd_addS (l := [47]) (m := shown (q.den : Int)) (by show 1 + _ ≤ _; omega) ?_
    rw [tx_app]
    refine rd_addS (l := shown q.num) (m := [47] ++ shown (q.den : Int)) (by rw [List.length_append]; show _ + (1 + _) ≤ _; omega) ?_
    rw [tx_app]
    unfold line at k
    rw [if_neg h3] at k
    exact k
theorem sm_str {q : Rat} (h : Sm60 q) : q.num.natAbs < 10 ^ 4300 ∧ q.den < 10 ^ 4300 ∧ (line q.num q.den).length ≤ 10 ^ 5 := by
  have e : (10 : Nat) ^ 60 ≤ 10 ^ 4300 := Nat.pow_le_pow_right (by decide) (by decide)
  have z1 := shown61 h.1
  have z2 := shown61 (sm_den h)
  refine ⟨Nat.lt_of_lt_of_le h.1 e, Nat.lt_of_lt_of_le h.2 e, ?_⟩
  unfold line
  rw [List.length_append]
  split
  · show _ + 0 ≤ _; omega
  · rw [List.length_cons]; omega
/-- str(ratio) -/
theorem str_of {H : Hp} {v : V} {q : Rat} {Q : VK} (h : RQ (gA "Ratio" K) H v q) (hs : Sm60 q) (k : Q (.str (tx (line q.num q.den))) H) : sp_Ratio___str__ K [v] H Q E0 := by
  obtain ⟨h1, h2, h3⟩ := sm_str hs
  exact ⟨_, rfl, q.num, q.den, h, h1, h2, h3, k⟩
def sp_w_is_shown (K : PySem.W.Frag) : Sp := sp2 fun x y H Q _ => ∃ q : Rat, RQ (gA "Ratio" K) H x q ∧ RQP K H y q ∧ Sm60 q ∧ ∀ H', Same H H' → Q (.bl true) H'
abbrev n_w_is_shown : List Str := ["_law_ratio", "_law_pair"]
theorem sc_w_is_shown : FnScope n_w_is_shown ["_law_ratio", "_law_pair"] (defScope s_w_is_shown) := ⟨rfl, rfl, rfl, by decide +kernel, rfl, by decide +kernel, by decide +kernel⟩
theorem cal_w_is_shown (T : Tx P K mg) : Cal P w K mg base 15 "_law_is_shown" (sp_w_is_shown K) := by
  refine cal_of (k := 14) T.G_w_is_shown T.D_w_is_shown sc_w_is_shown (fun _ _ _ _ _ _ us hl => match us, hl with | [_, _], _ => rfl) (fun vs H Q E h => ?_) (fun cdv A outer s H vs Q E hr h => ?_)
  · obtain ⟨v0, v1, rfl, _⟩ := h
    rfl
  obtain ⟨v0, v1, rfl, h⟩ := h
  refine ⟨_, pss_cons (ps_if (PW.pt (pw_or (pt_not (pt_val (pc (cal_is_ratio T) hr (pa_cons (pv 0) pa_nil)))) (pw_or1 (pt_cmpR (neX P w K mg base hr) (pe_lst (pa_cons (pp (prop_Ratio_top T) hr (pv 0)) (pa_cons (pp (prop_Ratio_bottom T) hr (pv 0)) (pa_cons (pe_callTy (call_strOwn (cal_Ratio___str__ T) T.O_Ratio___str__ (hr.mono (by decide))) (by rfl) T.N_str (by decide +kernel) (pa_cons (pv 0) pa_nil)) (pa_cons (pe_callTy (call_boolOwn (cal_Ratio___bool__ T) T.O_Ratio___bool__ (hr.mono (by decide))) (by rfl) T.N_bool (by decide +kernel) (pa_cons (pv 0) pa_nil)) pa_nil))))) (pe_lst (pa_cons (pe_ix (kIxT K) (pv 1) pe_int (fun _ _ => rfl)) (pa_cons (pe_ix (kIxT K) (pv 1) pe_int (fun _ _ => rfl)) (pa_cons (pc (cal_w_text T) hr (pa_cons (pv 1) pa_nil)) (pa_cons (pe_cmpR op_ne (pe_ix (kIxT K) (pv 1) pe_int (fun _ _ => rfl)) pe_int (nomark _)) pa_nil))))) (nomark _)))))
        (pss_one (ps_ret pe_bl))
        (pss_nil))
      (pss_one (ps_ret (pe_cmpR (eqX P w K mg base hr) (pe_lst (pa_cons (pp (prop_Ratio_top T) hr (pe_callB (call_absOwn (cal_Ratio___abs__ T) T.O_Ratio___abs__ (hr.mono (by decide))) (by rfl) T.N_abs (by decide +kernel) (pa_cons (pv 0) pa_nil))) (pa_cons (pp (prop_Ratio_bottom T) hr (pe_callB (call_absOwn (cal_Ratio___abs__ T) T.O_Ratio___abs__ (hr.mono (by decide))) (by rfl) T.N_abs (by decide +kernel) (pa_cons (pv 0) pa_nil))) (pa_cons (pp (prop_Ratio_top T) hr (pe_negW (cal_Ratio___neg__ T) T.O_Ratio___neg__ hr takesE (pv 0))) (pa_cons (pp (prop_Ratio_bottom T) hr (pe_negW (cal_Ratio___neg__ T) T.O_Ratio___neg__ hr takesE (pv 0))) pa_nil))))) (pe_lst (pa_cons (pe_callB bi_abs (by rfl) T.N_abs (by decide +kernel) (pa_cons (pe_ix (kIxT K) (pv 1) pe_int (fun _ _ => rfl)) pa_nil)) (pa_cons (pe_ix (kIxT K) (pv 1) pe_int (fun _ _ => rfl)) (pa_cons (pe_un un_neg (pe_ix (kIxT K) (pv 1) pe_int (fun _ _ => rfl))) (pa_cons (pe_ix (kIxT K) (pv 1) pe_int (fun _ _ => rfl)) pa_nil))))) (nomark _)))), ?_⟩
  obtain ⟨q, hx, hy, hs, k⟩ := h
  repeat walk_at "rt"
  refine ⟨_, rfl, .inl ⟨⟨q, hx⟩, ?_⟩⟩
  repeat walk_at "rt"
  refine rd_propAt hx ⟨_, rfl, q, hx, ?_⟩
  repeat walk_at "rt"
  refine rd_propAt hx ⟨_, rfl, q, hx, ?_⟩
  repeat walk_at "rt"
  refine ⟨_, _, _, rfl, hx, str_of hx hs ⟨_, rfl, ?_⟩⟩
  repeat walk_at "rt"
  refine ⟨_, _, _, rfl, hx, _, rfl, q, hx, ?_⟩
  repeat walk_at "rt"
  refine ⟨by show 4 ≤ sizeLine; decide, fun p1 hp1 => ?_⟩
  generalize he1 : upd _ _ _ = H1
  obtain ⟨e1, k1⟩ := same_upd he1 hp1
  have hy1 := Up.up (R := RQP K) e1 hy
  repeat walk_at "rt"
  refine rd_q0 hy1 ?_
  repeat walk_at "rt"
  refine rd_q1 hy1 ?_
  repeat walk_at "rt"
  refine ⟨_, rfl, q, hy1, hs, ?_⟩
  repeat walk_at "rt"
  refine rd_q0 hy1 ?_
  repeat walk_at "rt"
  have eb : (!decide (q.num = 0)) = (q.num != 0) := rfl
  rw [eb]
  refine ⟨by show 4 ≤ sizeLine; decide, fun p2 hp2 => ?_⟩
  generalize he2 : upd _ _ _ = H2
  obtain ⟨e2, k2⟩ := same_upd he2 hp2
  refine rd_neX (nc_lst (n := 13) ei_fl) (RL.at (e2 _ _ k1) (.cons rfl (.cons rfl (.cons rfl (.cons rfl .nil)))) (by show 4 ≤ sizeLine; decide) : RL K RF H2 (.ref p1) [.num q.num, .num (q.den : Int), .str (tx (line q.num q.den)), .num (if (q.num != 0) = true then 1 else 0)]) (RL.at k2 (.cons rfl (.cons rfl (.cons rfl (.cons rfl .nil)))) (by show 4 ≤ sizeLine; decide) : RL K RF H2 (.ref p2) [.num q.num, .num (q.den : Int), .str (tx (line q.num q.den)), .num (if (q.num != 0) = true then 1 else 0)]) fun H3 e3 => ?_
  rw [decide_eq_true rfl]
  have e03 := e1.trans (e2.trans e3)
  replace hx := Up.up e03 hx
  replace hy := Up.up (R := RQP K) e03 hy
  clear hy1 k1 k2 he1 he2 hp1 hp2 e1 e2 e3 eb
  repeat walk_at "rt"
  refine ⟨_, _, _, rfl, hx, _, rfl, q, hx, fun v4 H4 e4 h4 => ?_⟩
  refine rd_propAt h4 ⟨_, rfl, _, h4, ?_⟩
  replace hx := Up.up e4 hx
  repeat walk_at "rt"
  refine ⟨_, _, _, rfl, hx, _, rfl, q, hx, fun v5 H5 e5 h5 => ?_⟩
  refine rd_propAt h5 ⟨_, rfl, _, h5, ?_⟩
  replace hx := Up.up e5 hx
  repeat walk_at "rt"
  refine ⟨⟨_, _, hx⟩, _, rfl, q, hx, fun v6 H6 e6 h6 => ?_⟩
  refine rd_propAt h6 ⟨_, rfl, _, h6, ?_⟩
  replace hx := Up.up e6 hx
  repeat walk_at "rt"
  refine ⟨⟨_, _, hx⟩, _, rfl, q, hx, fun v7 H7 e7 h7 => ?_⟩
  refine rd_propAt h7 ⟨_, rfl, _, h7, ?_⟩
  repeat walk_at "rt"
  have e37 := e4.trans (e5.trans (e6.trans e7))
  replace hy := Up.up (R := RQP K) e37 hy
  clear h4 h5 h6 h7 hx e4 e5 e6 e7
  rw [qabs_num, qabs_den, show (-q).num = -q.num from rfl, show (-q).den = q.den from rfl]
  refine ⟨by show 4 ≤ sizeLine; decide, fun p8 hp8 => ?_⟩
  generalize he8 : upd _ _ _ = H8
  obtain ⟨e8, k8⟩ := same_upd he8 hp8
  replace hy := Up.up (R := RQP K) e8 hy
  repeat walk_at "rt"
  refine rd_q0 hy ?_
  repeat walk_at "rt"
  refine rd_q1 hy ?_
  repeat walk_at "rt"
  refine rd_q0 hy ?_
  repeat walk_at "rt"
  refine rd_q1 hy ?_
  repeat walk_at "rt"
  refine ⟨by show 4 ≤ sizeLine; decide, fun p9 hp9 => ?_⟩
  generalize he9 : upd _ _ _ = H9
  obtain ⟨e9, k9⟩ := same_upd he9 hp9
  refine rd_eqX (ec_lst (n := 13) ei_int) (RL.at (e9 _ _ k8) (RAll.ints (ns := [_, _, _, _])) (by show 4 ≤ sizeLine; decide) : RL K RI H9 (.ref p8) [(q.num.natAbs : Int), (q.den : Int), -q.num, (q.den : Int)]) (RL.at k9 (RAll.ints (ns := [_, _, _, _])) (by show 4 ≤ sizeLine; decide) : RL K RI H9 (.ref p9) [(q.num.natAbs : Int), (q.den : Int), -q.num, (q.den : Int)]) fun H10 e10 => ?_
  rw [decide_eq_true rfl]
  exact k _ (e03.trans (e37.trans (e8.trans (e9.trans e10))))
end
end LW
end
section
set_option Elab.async false
set_option linter.all false
set_option maxRecDepth 100000
set_option maxHeartbeats 4000000
set_option pp.maxSteps 700
set_option exponentiation.threshold 20000
namespace LW
open PySem PySem.Spec PyProof.Rows L2 Wo
local macro_rules | `(tactic| walk_at "lf") => `(tactic| first | assumption | (refine Up.up (by assumption) ?_; walk_at "lf") | (refine RAll.up (by assumption) ?_; walk_at "lf") | (refine Ob2.up (by assumption) ?_; walk_at "lf"))
local macro_rules | `(tactic| walk_at "side") => `(tactic| first | (unfold CMul; omega) | (unfold CDiv; omega) | (unfold CDivN; omega) | (unfold CPow; omega) | (show (0 : Int) < _; omega) | decide)
local macro_rules | `(tactic| walk_at "rd1") => `(tactic| first
  | ((with_reducible refine rd_var (v := ?v) ?h ?_); (case h => rfl))
  | with_reducible refine rd_c ?_
  | with_reducible refine rd_op ?_
  | with_reducible refine rd_I0 ?_
  | with_reducible refine rd_I ?_ ?_
  | with_reducible refine rd_U ?_
  | with_reducible refine rd_eqI ?_
  | with_reducible refine rd_neI ?_
  | with_reducible refine rd_eqS ?_
  | with_reducible refine rd_neS ?_
  | with_reducible refine rd_un ?_
  | with_reducible refine rd_test ?_
  | with_reducible refine rd_tB ?_
  | with_reducible refine rd_exB ?_
  | with_reducible refine rd_cons ?_
  | with_reducible refine rd_nil ?_
  | with_reducible refine rd_call ?_
  | with_reducible refine rd_cb ?_
  | with_reducible refine rd_seq ?_
  | with_reducible refine rd_asg ?_
  | with_reducible refine rd_gname ?_
  | with_reducible refine rd_ret ?_
  | with_reducible refine rd_ifS ?_
  | with_reducible refine rd_next ?_
  | with_reducible refine rd_drop ?_
  | with_reducible refine rd_if ?_
  | with_reducible refine rd_not ?_
  | with_reducible refine rd_and ?_
  | with_reducible refine rd_or ?_
  | with_reducible refine rd_andV ?_
  | with_reducible refine rd_orV ?_
  | with_reducible refine rd_notV ?_
  | with_reducible refine rd_chain ?_
  | with_reducible refine rd_slot ?_
  | with_reducible refine rd_sst ?_
  | with_reducible refine rd_par ?_
  | with_reducible refine rd_ex2 ?_
  | with_reducible refine rd_gcd ?_
  | with_reducible refine rd_prop ?_
  | with_reducible refine rd_sub ?_
  | with_reducible refine rd_lcm ?_ ?_
  | with_reducible refine rd_forL ?_
  | with_reducible refine rd_forT ?_
  | with_reducible refine rd_forR1 ?_
  | with_reducible refine rd_forZ ?_
  | with_reducible refine rd_lcL ?_
  | with_reducible refine rd_lcT ?_
  | with_reducible refine rd_lcR1 ?_
  | with_reducible refine rd_lcR2 ?_
  | with_reducible refine rd_lcZ ?_
  | with_reducible refine rd_lc2TT ?_
  | with_reducible refine rd_abs ?_
  | with_reducible refine rd_int ?_
  | with_reducible refine rd_intB ?_
  | with_reducible refine rd_max2 ?_
  | with_reducible refine rd_min2 ?_
  | with_reducible refine rd_tup ?_
  | with_reducible refine rd_lst ?_
  | with_reducible refine ite_T ?_
  | with_reducible refine ite_n ?_
  | with_reducible refine ite_y ?_
  | with_reducible refine ite_F ?_
  | with_reducible refine rd_retN ?_)
local macro_rules | `(tactic| walk_at "rd") => `(tactic| repeat walk_at "rd1")
local macro_rules | `(tactic| walk_at "sd") => `(tactic| first | exact Or.inl ⟨by decide, by decide⟩ | exact Or.inr ⟨by decide, by decide⟩ | (show (0 : Int) < _; decide +kernel) | exact ⟨by decide, by decide, by decide +kernel⟩ | exact ⟨by decide, by decide +kernel⟩)
section
variable {P : Program} {w : World} {K : PySem.W.Frag} {mg : Str → Option Value} {base : Heap}
set_option hygiene false in
local macro_rules | `(tactic| walk_at "rt") => `(tactic| first
  | walk_at "rd1"
  | with_reducible refine rd_exI ?_
  | with_reducible refine rd_sl ?_
  | with_reducible refine rd_noPart ?_
  | with_reducible refine rd_part ?_
  | with_reducible refine rd_forR2 ?_
  | with_reducible refine rd_gSub ?_
  | with_reducible refine rd_lcR2f ?_
  | with_reducible refine rd_bm ?_
  | with_reducible refine rd_negW ?_
  | with_reducible refine rd_methW ?_
  | with_reducible refine rd_callW ?_)
/-- a value whose bool-ness is known -/
def RIb (K : PySem.W.Frag) : Rl Bool := fun H v b => ∃ t, HasTy K H v t ∧ PySem.W.kitOne K t (.type "bool") = some b
instance : Up (RIb K) := ⟨fun e ⟨t, h1, h2⟩ => ⟨t, Up.up (R := RTy K) e h1, h2⟩⟩
instance : UpN (RIb K) := ⟨fun ⟨t, h1, h2⟩ => ⟨t, UpN.up (R := RTy K) h1, h2⟩⟩
def Kept (K : PySem.W.Frag) (H : Hp) (y : V) : Prop := ((∃ a, y = .ref a) ∨ ∃ f, RF H y f) ∧ ∃ b, RIb K H y b
def sp_w_is_kept (K : PySem.W.Frag) : Sp := sp2 fun x y H Q _ => ∃ p, x = .ref p ∧ H p = some (.lst [y]) ∧ Kept K H y ∧ ∀ H', Same H H' → Q (.bl true) H'
abbrev n_w_is_kept : List Str := ["_law_told", "_law_value", "_law_one"]
theorem sc_w_is_kept : FnScope n_w_is_kept ["_law_told", "_law_value"] (defScope s_w_is_kept) := ⟨rfl, rfl, rfl, by decide +kernel, rfl, by decide +kernel, by decide +kernel⟩
theorem cal_w_is_kept (T : Tx P K mg) : Cal P w K mg base 10 "_law_is_kept" (sp_w_is_kept K) := by
  refine cal_of (k := 9) T.G_w_is_kept T.D_w_is_kept sc_w_is_kept (fun _ _ _ _ _ _ us hl => match us, hl with | [_, _], _ => rfl) (fun vs H Q E h => ?_) (fun cdv A outer s H vs Q E hr h => ?_)
  · obtain ⟨v0, v1, rfl, _⟩ := h
    rfl
  obtain ⟨v0, v1, rfl, h⟩ := h
  refine ⟨_, pss_one (ps_ret (pe_and (pe_cmpR (eqX P w K mg base hr) (pv 0) (pe_lst (pa_cons (pv 1) pa_nil)) (nomark _)) (pe_one (pe_cmpR (eqX P w K mg base hr) (pe_lc (own := [("_law_one", 2)]) (g := gName 2) (tt := tYes) (by rfl) sc_w_is_kept.nd (kPiL K (pv 0)) (blkOk_by (own := [("_law_one", 2)]) (N := n_w_is_kept) (by rfl)) (fun _ _ _ _ _ => pg_name (i := 2) sc_w_is_kept.nd rfl (by first | exact Or.inl rfl | exact Or.inr rfl)) (fun _ _ _ _ _ => pts_nil) (fun _ _ _ _ _ => pe_hid (pe_callB (kIsi K) (by rfl) T.N_isinstance (by decide +kernel) (pa_cons (pv 2) (pa_cons (pe_bltn (v := .ty "bool") (by rfl) T.N_bool (by decide +kernel) rfl) pa_nil))))) (pe_lst (pa_cons (pe_callB (kIsi K) (by rfl) T.N_isinstance (by decide +kernel) (pa_cons (pv 1) (pa_cons (pe_bltn (v := .ty "bool") (by rfl) T.N_bool (by decide +kernel) rfl) pa_nil))) pa_nil)) (nomark _))))), ?_⟩
  obtain ⟨p, rfl, hp, ⟨hv, b, hb⟩, k⟩ := h
  repeat walk_at "rt"
  refine ⟨by show 1 ≤ sizeLine; decide, fun p1 hp1 => ?_⟩
  generalize he1 : upd _ _ _ = H1
  obtain ⟨e1, k1⟩ := same_upd he1 hp1
  refine rd_eqOne hv (e1 _ _ hp) k1 fun H2 e2 => ?_
  have e12 := e1.trans e2
  have hb2 := Up.up e12 hb
  have hp2 := e12 _ _ hp
  repeat walk_at "rt"
  refine lcL (RL.at hp2 (.cons hb2 .nil) (by show 1 ≤ sizeLine; decide) : RL K (RIb K) H2 (.ref p) [b]) fun J W hz => ?_
  refine lcK_name (S := RB) (K := K) W hz (fun b => b) (fun v3 H3 e3 h3 => ?_) (fun b G x hi e4 hx Kt hk => ?_)
  · replace h3 : RL K RB H3 v3 [b] := h3
    repeat walk_at "rt"
    obtain ⟨t, h1, h2⟩ := Up.up e3 hb2
    refine rd_isi h1 (.ty "bool") h2 ?_
    repeat walk_at "rt"
    refine ⟨by show 1 ≤ sizeLine; decide, fun p4 hp4 => ?_⟩
    generalize he4 : upd _ _ _ = H4
    obtain ⟨e4, k4⟩ := same_upd he4 hp4
    refine rd_eqX (ec_lst (n := 8) ei_bool) (Up.up e4 h3) (RL.at k4 (.cons rfl .nil) (by show 1 ≤ sizeLine; decide) : RL K RB H4 (.ref p4) [b]) fun H5 e5 => ?_
    rw [decide_eq_true rfl]
    exact k _ (e12.trans (e3.trans (e4.trans e5)))
  · obtain ⟨t, h1, h2⟩ := hx
    repeat walk_at "rt"
    refine rd_isi h1 (.ty "bool") h2 ?_
    exact hk _ _ (Same.refl _) rfl
theorem cross_eq (p q : Rat) : p.num * (q.den : Int) - q.num * (p.den : Int) = 0 ↔ p = q := by
  constructor
  · intro h
    have n1 : ¬ p < q := by rw [Rat.lt_iff]; omega
    have n2 : ¬ q < p := by rw [Rat.lt_iff]; omega
    exact Rat.le_antisymm (Rat.not_lt.mp n2) (Rat.not_lt.mp n1)
  · rintro rfl
    omega
theorem rd_eqb {a b : Bool} {H : Hp} {Q : VK} (q : Q (.bl (a == b)) H) : rEq (.bl a) (.bl b) H Q := ⟨rfl, by rw [dec_bl]; exact q⟩
def sp_w_order_right (K : PySem.W.Frag) : Sp := sp4 fun x y z u H Q _ => ∃ p q : Rat, RQ (gA "Ratio" K) H x p ∧ RQ (gA "Ratio" K) H y q ∧ RQP K H z p ∧ RQP K H u q ∧ Sm60 p ∧ Sm60 q ∧ ∀ H', Same H H' → Q (.bl true) H'
abbrev n_w_order_right : List Str := ["_law_one", "_law_other", "_law_pair", "_law_far", "_law_across"]
theorem sc_w_order_right : FnScope n_w_order_right ["_law_one", "_law_other", "_law_pair", "_law_far"] (defScope s_w_order_right) := ⟨rfl, rfl, rfl, by decide +kernel, rfl, by decide +kernel, by decide +kernel⟩
theorem cal_w_order_right (T : Tx P K mg) : Cal P w K mg base 10 "_law_order_right" (sp_w_order_right K) := by
  refine cal_of (k := 9) T.G_w_order_right T.D_w_order_right sc_w_order_right (fun _ _ _ _ _ _ us hl => match us, hl with | [_, _, _, _], _ => rfl) (fun vs H Q E h => ?_) (fun cdv A outer s H vs Q E hr h => ?_)
  · obtain ⟨v0, v1, v2, v3, rfl, _⟩ := h
    rfl
  obtain ⟨v0, v1, v2, v3, rfl, h⟩ := h
  refine ⟨_, pss_cons (ps_set (i := 4) sc_w_order_right.nd rfl (by first | exact Or.inl rfl | exact Or.inr rfl) (pe_op op_sub (pe_op op_mulW (pe_ix (kIxT K) (pv 2) pe_int (fun _ _ => rfl)) (pe_ix (kIxT K) (pv 3) pe_int (fun _ _ => rfl))) (pe_op op_mulW (pe_ix (kIxT K) (pv 3) pe_int (fun _ _ => rfl)) (pe_ix (kIxT K) (pv 2) pe_int (fun _ _ => rfl)))))
      (pss_cons (ps_if (pt_cmpR (neX P w K mg base hr) (pe_lst (pa_cons (pe_methW (cal_Ratio_is_less T) T.O_Ratio_is_less T.C_Ratio.cl hr takesE (pv 0) (pa_cons (pv 1) pa_nil)) (pa_cons (pe_methW (cal_Ratio_is_less T) T.O_Ratio_is_less T.C_Ratio.cl hr takesE (pv 1) (pa_cons (pv 0) pa_nil)) (pa_cons (pe_methW (cal_Ratio_is_less T) T.O_Ratio_is_less T.C_Ratio.cl hr takesE (pv 0) (pa_cons (pv 0) pa_nil)) pa_nil)))) (pe_lst (pa_cons (pe_cmpR op_lt (pv 4) pe_int (nomark _)) (pa_cons (pe_cmpR op_gt (pv 4) pe_int (nomark _)) (pa_cons pe_bl pa_nil)))) (nomark _))
        (pss_one (ps_ret pe_bl))
        (pss_nil))
      (pss_one (ps_ret (pe_and (pe_cmpR op_eq (pe_cmpR (eqX P w K mg base hr) (pv 0) (pv 1) (nomark _)) (pe_cmpR op_eq (pv 4) pe_int (nomark _)) (nomark _)) (pe_and (pe_cmpR op_eq (pe_cmpR (neX P w K mg base hr) (pv 0) (pv 1) (nomark _)) (pe_cmpR op_ne (pv 4) pe_int (nomark _)) (nomark _)) (pe_and (pe_cmpR (neO (cal_Ratio___eq__ T) T.O_Ratio___eq__ T.Q_Ratio___ne__ T.C_Ratio.si.cm (hr.mono (by decide))) (pv 0) (pe_ix (kIxT K) (pv 2) pe_int (fun _ _ => rfl)) (nomark _)) (pe_one (pe_cmpR (neO (cal_Ratio___eq__ T) T.O_Ratio___eq__ T.Q_Ratio___ne__ T.C_Ratio.si.cm (hr.mono (by decide))) (pv 0) (pe_callTy (call_strOwn (cal_Ratio___str__ T) T.O_Ratio___str__ (hr.mono (by decide))) (by rfl) T.N_str (by decide +kernel) (pa_cons (pv 0) pa_nil)) (nomark _))))))))), ?_⟩
  obtain ⟨p, q, hx, hy, hz, hu, hp, hq, k⟩ := h
  obtain ⟨p1, p2⟩ := fits_lt hp
  obtain ⟨q1, q2⟩ := fits_lt hq
  repeat walk_at "rt"
  refine rd_q0 hz ?_
  repeat walk_at "rt"
  refine rd_q1 hu ?_
  repeat walk_at "rt"
  · refine rd_q0 hu ?_
    repeat walk_at "rt"
    refine rd_q1 hz ?_
    repeat walk_at "rt"
    · refine ⟨⟨_, _, hx⟩, ?_⟩
      repeat walk_at "rt"
      refine ⟨_, _, rfl, p, hx, .inl ⟨q, hy, hp, hq, ?_⟩⟩
      repeat walk_at "rt"
      refine ⟨⟨_, _, hy⟩, ?_⟩
      repeat walk_at "rt"
      refine ⟨_, _, rfl, q, hy, .inl ⟨p, hx, hq, hp, ?_⟩⟩
      repeat walk_at "rt"
      refine ⟨⟨_, _, hx⟩, ?_⟩
      repeat walk_at "rt"
      refine ⟨_, _, rfl, p, hx, .inl ⟨p, hx, hp, hp, ?_⟩⟩
      repeat walk_at "rt"
      refine ⟨by show 3 ≤ sizeLine; decide, fun p8 hp8 => ?_⟩
      generalize he8 : upd _ _ _ = H8
      obtain ⟨e8, k8⟩ := same_upd he8 hp8
      repeat walk_at "rt"
      refine ⟨by show 3 ≤ sizeLine; decide, fun p9 hp9 => ?_⟩
      generalize he9 : upd _ _ _ = H9
      obtain ⟨e9, k9⟩ := same_upd he9 hp9
      have a1 : decide (p.num * (q.den : Int) - q.num * (p.den : Int) < 0) = decide (p < q) := decide_eq_decide.mpr (by rw [Rat.lt_iff]; omega)
      have a2 : decide (p.num * (q.den : Int) - q.num * (p.den : Int) > 0) = decide (q < p) := decide_eq_decide.mpr (by rw [Rat.lt_iff]; omega)
      have a3 : decide (p < p) = false := decide_eq_false (by rw [Rat.lt_iff]; omega)
      have a4 : decide (p.num * (q.den : Int) - q.num * (p.den : Int) = 0) = decide (p = q) := decide_eq_decide.mpr (cross_eq p q)
      rw [a3] at k8
      rw [a1, a2] at k9
      refine rd_neX (nc_lst (n := 8) ei_bool) (RL.at (e9 _ _ k8) (.cons rfl (.cons rfl (.cons rfl .nil))) (by show 3 ≤ sizeLine; decide) : RL K RB H9 (.ref p8) [decide (p < q), decide (q < p), false]) (RL.at k9 (.cons rfl (.cons rfl (.cons rfl .nil))) (by show 3 ≤ sizeLine; decide) : RL K RB H9 (.ref p9) [decide (p < q), decide (q < p), false]) fun H10 e10 => ?_
      rw [decide_eq_true rfl]
      have f10 := e8.trans (e9.trans e10)
      replace hx := Up.up f10 hx
      replace hy := Up.up f10 hy
      replace hz := Up.up (R := RQP K) f10 hz
      clear k8 k9 he8 he9 hp8 hp9 e8 e9 e10 a1 a2 a3
      repeat walk_at "rt"
      refine rd_eqX (ec_rat (eqF T) T.O_Ratio___eq__ (by decide)) hx hy fun H11 e11 => ?_
      repeat walk_at "rt"
      rw [a4]
      refine rd_eqb ?_
      rw [beq_self_eq_true]
      repeat walk_at "rt"
      replace hx := Up.up e11 hx
      replace hy := Up.up e11 hy
      refine rd_neX (nc_rat (eqF T) T.O_Ratio___eq__ T.Q_Ratio___ne__ T.C_Ratio.si.cm (by decide)) hx hy fun H12 e12 => ?_
      repeat walk_at "rt"
      rw [a4]
      refine rd_eqb ?_
      rw [beq_self_eq_true]
      repeat walk_at "rt"
      replace hx := Up.up e12 hx
      replace hz := Up.up (R := RQP K) (e11.trans e12) hz
      refine rd_q0 hz ?_
      repeat walk_at "rt"
      refine ⟨⟨_, _, hx⟩, .inl ⟨_, rfl⟩, _, _, rfl, p, hx, .inr ⟨⟨_, HasTy.int, T.K_int_Ratio⟩, false, rfl, ?_⟩⟩
      repeat walk_at "rt"
      refine ⟨_, _, _, rfl, hx, str_of hx hp ⟨_, rfl, ?_⟩⟩
      refine ⟨⟨_, _, hx⟩, .inr ⟨_, rfl⟩, _, _, rfl, p, hx, .inr ⟨⟨_, HasTy.str, T.K_str_Ratio⟩, false, rfl, ?_⟩⟩
      exact k _ (f10.trans (e11.trans e12))
    · exact mul_of q1 p2
  · exact mul_of p1 q2
end
end LW
end
section
set_option Elab.async false
set_option linter.all false
set_option maxRecDepth 100000
set_option maxHeartbeats 4000000
set_option pp.maxSteps 700
set_option exponentiation.threshold 20000
namespace LW
open PySem PySem.Spec PyProof.Rows L2 Wo
local macro_rules | `(tactic| walk_at "lf") => `(tactic| first | assumption | (refine Up.up (by assumption) ?_; walk_at "lf") | (refine RAll.up (by assumption) ?_; walk_at "lf") | (refine Ob2.up (by assumption) ?_; walk_at "lf"))
local macro_rules | `(tactic| walk_at "side") => `(tactic| first | (unfold CMul; omega) | (unfold CDiv; omega) | (unfold CDivN; omega) | (unfold CPow; omega) | (show (0 : Int) < _; omega) | decide)
local macro_rules | `(tactic| walk_at "rd1") => `(tactic| first
  | ((with_reducible refine rd_var (v := ?v) ?h ?_); (case h => rfl))
  | with_reducible refine rd_c ?_
  | with_reducible refine rd_op ?_
  | with_reducible refine rd_I0 ?_
  | with_reducible refine rd_I ?_ ?_
  | with_reducible refine rd_U ?_
  | with_reducible refine rd_eqI ?_
  | with_reducible refine rd_neI ?_
  | with_reducible refine rd_eqS ?_
  | with_reducible refine rd_neS ?_
  | with_reducible refine rd_un ?_
  | with_reducible refine rd_test ?_
  | with_reducible refine rd_tB ?_
  | with_reducible refine rd_exB ?_
  | with_reducible refine rd_cons ?_
  | with_reducible refine rd_nil ?_
  | with_reducible refine rd_call ?_
  | with_reducible refine rd_cb ?_
  | with_reducible refine rd_seq ?_
  | with_reducible refine rd_asg ?_
  | with_reducible refine rd_gname ?_
  | with_reducible refine rd_ret ?_
  | with_reducible refine rd_ifS ?_
  | with_reducible refine rd_next ?_
  | with_reducible refine rd_drop ?_
  | with_reducible refine rd_if ?_
  | with_reducible refine rd_not ?_
  | with_reducible refine rd_and ?_
  | with_reducible refine rd_or ?_
  | with_reducible refine rd_andV ?_
  | with_reducible refine rd_orV ?_
  | with_reducible refine rd_notV ?_
  | with_reducible refine rd_chain ?_
  | with_reducible refine rd_slot ?_
  | with_reducible refine rd_sst ?_
  | with_reducible refine rd_par ?_
  | with_reducible refine rd_ex2 ?_
  | with_reducible refine rd_gcd ?_
  | with_reducible refine rd_prop ?_
  | with_reducible refine rd_sub ?_
  | with_reducible refine rd_lcm ?_ ?_
  | with_reducible refine rd_forL ?_
  | with_reducible refine rd_forT ?_
  | with_reducible refine rd_forR1 ?_
  | with_reducible refine rd_forZ ?_
  | with_reducible refine rd_lcL ?_
  | with_reducible refine rd_lcT ?_
  | with_reducible refine rd_lcR1 ?_
  | with_reducible refine rd_lcR2 ?_
  | with_reducible refine rd_lcZ ?_
  | with_reducible refine rd_lc2TT ?_
  | with_reducible refine rd_abs ?_
  | with_reducible refine rd_int ?_
  | with_reducible refine rd_intB ?_
  | with_reducible refine rd_max2 ?_
  | with_reducible refine rd_min2 ?_
  | with_reducible refine rd_tup ?_
  | with_reducible refine rd_lst ?_
  | with_reducible refine ite_T ?_
  | with_reducible refine ite_n ?_
  | with_reducible refine ite_y ?_
  | with_reducible refine ite_F ?_
  | with_reducible refine rd_retN ?_)
local macro_rules | `(tactic| walk_at "rd") => `(tactic| repeat walk_at "rd1")
local macro_rules | `(tactic| walk_at "sd") => `(tactic| first | exact Or.inl ⟨by decide, by decide⟩ | exact Or.inr ⟨by decide, by decide⟩ | (show (0 : Int) < _; decide +kernel) | exact ⟨by decide, by decide, by decide +kernel⟩ | exact ⟨by decide, by decide +kernel⟩)
section
variable {P : Program} {w : World} {K : PySem.W.Frag} {mg : Str → Option Value} {base : Heap}
set_option hygiene false in
local macro_rules | `(tactic| walk_at "rt") => `(tactic| first
  | walk_at "rd1"
  | with_reducible refine rd_exI ?_
  | with_reducible refine rd_forR2 ?_
  | with_reducible refine rd_gSub ?_
  | with_reducible refine rd_lcR2f ?_
  | with_reducible refine rd_bm ?_
  | with_reducible refine rd_callW ?_)
/-- what is told of a refusal -/
def Etold (K : PySem.W.Frag) (Q : VK) : XK := fun cls d H => (cls = .ref (gA "InvalidNumber" K) ∧ ∃ dd v, d = some dd ∧ H dd = some (.xd [("given", v)]) ∧ ∀ p, H p = none → Q (.ref p) (upd H p (.lst [v]))) ∨ (cls = .ref (gA "InvalidRatio" K) ∧ Q (.str "ratio") H)
def TT_w_refused (K : PySem.W.Frag) (tl : XK → Hp → VK → Prop) (H : Hp) (Q : VK) : Prop := ∀ Q' : VK, tl (Etold K Q) H Q'
abbrev n_w_refused : List Str := ["_law_call", "e"]
theorem sc_w_refused : FnScope n_w_refused ["_law_call"] (defScope s_w_refused) := ⟨rfl, rfl, rfl, by decide +kernel, rfl, by decide +kernel, by decide +kernel⟩
theorem gives_w_refused (T : Tx P K mg) {k : Nat} {q : Str} : GivesW P w K mg base n_w_refused "_law_refused" (defScope s_w_refused) (gA "_law_refused" K) (k + 4) (defBody s_w_refused) "_law_call" q (TT_w_refused K) := by
  intro cdv A outer f c' s H Q tl hr act hc h
  replace hr := hr.mono (show 5 ≤ k + 4 + 1 by omega)
  refine ⟨_, pss_cons (ps_try_ex rfl rfl takes0 (n := 2) rfl (fun pn0 xe0 Ech tk0 own0 => pss_one (ps_expr (act pn0 xe0 Ech _ _ tk0))) (HdM.named ⟨by rfl, by decide, .inl T.G_InvalidNumber⟩ sc_w_refused.nd (i := 1) rfl rfl (fun a0 oe0 cls0 d0 pn0 hz0 hf0 => pss_one (ps_ret (pe_lst (pa_cons (pe_xf T.F_InvalidNumber T.L_InvalidNumber hz0 hf0 (pv 1)) pa_nil)))) (HdM.bare ⟨by rfl, by decide, .inl T.G_InvalidRatio⟩ (fun a0 oe0 cls0 d0 pn0 hz0 hf0 => pss_one (ps_ret pe_str)) (HdM.nil))))
      (pss_one (ps_ret (pe_lst pa_nil))), ?_⟩
  refine ⟨Etold K Q, ?_, ?_⟩
  · intro cls d σ' H' hl hE
    rcases σ' with _ | ⟨x0, _ | ⟨x1, _ | ⟨x2, σ4⟩⟩⟩
    all_goals try (simp at hl; done)
    rcases hE with ⟨rfl, dd, v, rfl, hd, q⟩ | ⟨rfl, q⟩
    · refine ⟨true, T.M_InvalidNumber_InvalidNumber, fun _ a ha => ?_, (fun h => nomatch h)⟩
      repeat walk_at "rt"
      refine rd_xf ?_
      repeat walk_at "rt"
      refine ⟨rfl, rfl, dd, _, _, rfl, hd, rfl, ?_⟩
      repeat walk_at "rt"
      exact ⟨by show 1 ≤ sizeLine; decide, q⟩
    · refine ⟨false, T.M_InvalidRatio_InvalidNumber, (fun h => nomatch h), fun _ => ⟨true, T.M_InvalidRatio_InvalidRatio, fun _ a ha => ?_, (fun h => nomatch h)⟩⟩
      repeat walk_at "rt"
      exact q
  · repeat walk_at "rt"
    refine ⟨rfl, hc, h _⟩
end
end LW
end
section
set_option Elab.async false
set_option linter.all false
set_option maxRecDepth 100000
set_option maxHeartbeats 4000000
set_option pp.maxSteps 700
namespace LW
open PySem PySem.Spec PyProof.Rows L2 Wo
/-! odd values -/
section
variable {P : Program} {w : World} {K : PySem.W.Frag} {mg : Str → Option Value} {base : Heap} {H H' : Hp} {v : V}
/-- no ratio, no integer of sixty digits -/
structure OddV (K : PySem.W.Frag) (H : Hp) (v : V) : Prop where
  nr : NoC K "Ratio" H v
  nl : NoC K "Lowest" H v
  bad : BadI K H v
  st : StrW H v
  kept : Kept K H v
theorem StrW.to (e : ∀ p o, H p = some o → (∀ ps, o ≠ .tbl ps) → H' p = some o) (h : StrW H v) : StrW H' v := by
  rcases h with h | ⟨p, i, rfl, hp, i0, i1⟩ | ⟨p, rfl, hp⟩
  · exact .inl (StrH.to (fun p xs q => e _ _ q (fun ps z => by cases z)) h)
  · exact .inr (.inl ⟨p, i, rfl, e _ _ hp (fun ps z => by cases z), i0, i1⟩)
  · exact .inr (.inr ⟨p, rfl, e _ _ hp (fun ps z => by cases z)⟩)
theorem NoC.noT {c : Str} (h : NoC K c H v) : NoC K c (noT H) v := h.imp fun t ⟨h1, h2⟩ => ⟨UpN.up (R := RTy K) h1, h2⟩
theorem BadI.noT (h : BadI K H v) : BadI K (noT H) v := h.imp (fun h => h.imp (fun ⟨t, h1, h2⟩ => ⟨t, UpN.up (R := RTy K) h1, h2⟩) id) id
theorem Kept.up (e : Same H H') (h : Kept K H v) : Kept K H' v := ⟨h.1.imp id fun ⟨f, hf⟩ => ⟨f, hf⟩, h.2.imp fun b hb => Up.up e hb⟩
theorem Kept.noT (h : Kept K H v) : Kept K (noT H) v := ⟨h.1.imp id fun ⟨f, hf⟩ => ⟨f, hf⟩, h.2.imp fun b hb => UpN.up hb⟩
def RO (K : PySem.W.Frag) : Rl Unit := fun H v _ => OddV K H v
instance : Up (RO K) := ⟨fun e h => ⟨h.nr.up e, h.nl.up e, h.bad.up e, StrW.to (fun p o q _ => e _ _ q) h.st, h.kept.up e⟩⟩
instance : UpN (RO K) := ⟨fun h => ⟨h.nr.noT, h.nl.noT, h.bad.noT, StrW.to (fun p o q n => noT_at q n) h.st, h.kept.noT⟩⟩
/-- odd, or a ratio of sixty digits -/
def RBad (K : PySem.W.Frag) : Rl Unit := fun H v _ => OddV K H v ∨ ∃ q, RQ (gA "Ratio" K) H v q ∧ Sm60 q
instance : Up (RBad K) := ⟨fun e h => h.imp (fun h => Up.up (R := RO K) (a := ()) e h) fun ⟨q, h1, h2⟩ => ⟨q, Up.up e h1, h2⟩⟩
instance : UpN (RBad K) := ⟨fun h => h.imp (fun h => UpN.up (R := RO K) (a := ()) h) fun ⟨q, h1, h2⟩ => ⟨q, UpN.up h1, h2⟩⟩
/-- odd, or 0 -/
def RWrs (K : PySem.W.Frag) : Rl Unit := fun H v _ => OddV K H v ∨ v = .int 0
instance : Up (RWrs K) := ⟨fun e h => h.imp (fun h => Up.up (R := RO K) (a := ()) e h) id⟩
instance : UpN (RWrs K) := ⟨fun h => h.imp (fun h => UpN.up (R := RO K) (a := ()) h) id⟩
/-- no ratio -/
def RNo (K : PySem.W.Frag) : Rl Unit := fun H v _ => NoC K "Ratio" H v
instance : Up (RNo K) := ⟨fun e h => NoC.up e h⟩
theorem ty_tup {p : Addr} {xs : List V} (h : H p = some (.tup xs)) : HasTy K H (.ref p) (.type "tuple") := .inl (.base (.tup h))
theorem ty_lst {p : Addr} {xs : List V} (h : H p = some (.lst xs)) : HasTy K H (.ref p) (.type "list") := .inl (.base (.lst h))
theorem ty_dict {p : Addr} {kvs : List (Key × V)} (h : H p = some (.dK kvs)) : HasTy K H (.ref p) (.type "dict") := .inl (.base (.dK h))
section
variable (T : Tx P K mg)
include T
theorem odd_none : OddV K H .non := ⟨⟨_, HasTy.none, T.K_NoneType_Ratio⟩, ⟨_, HasTy.none, T.K_NoneType_Lowest⟩, .inl (.inl ⟨_, HasTy.none, by rfl⟩), .inl trivial, .inr ⟨.none, rfl⟩, false, _, HasTy.none, by rfl⟩
theorem odd_bool {b : Bool} : OddV K H (.bl b) := ⟨⟨_, HasTy.bool, T.K_bool_Ratio⟩, ⟨_, HasTy.bool, T.K_bool_Lowest⟩, .inl (.inr ⟨b, rfl⟩), .inl trivial, .inr ⟨.num (if b then 1 else 0), rfl⟩, true, _, HasTy.bool, by rfl⟩
theorem odd_str {s : Str} : OddV K H (.str s) := ⟨⟨_, HasTy.str, T.K_str_Ratio⟩, ⟨_, HasTy.str, T.K_str_Lowest⟩, .inl (.inl ⟨_, HasTy.str, by rfl⟩), .inl trivial, .inr ⟨.str s, rfl⟩, false, _, HasTy.str, by rfl⟩
theorem odd_int {i : Int} (h : ¬ inW i) (hl : i.natAbs.log2 < 1920) : OddV K H (.int i) := ⟨⟨_, HasTy.int, T.K_int_Ratio⟩, ⟨_, HasTy.int, T.K_int_Lowest⟩, .inr ⟨i, rfl, h⟩, .inl hl, .inr ⟨.num i, rfl⟩, false, _, HasTy.int, by rfl⟩
theorem odd_tup {p : Addr} (h : H p = some (.tup [.int 1])) : OddV K H (.ref p) := ⟨⟨_, ty_tup h, T.K_tuple_Ratio⟩, ⟨_, ty_tup h, T.K_tuple_Lowest⟩, .inl (.inl ⟨_, ty_tup h, by rfl⟩), .inl (StrH.digit h (by decide) (by decide)), .inl ⟨p, rfl⟩, false, _, ty_tup h, by rfl⟩
theorem odd_lst {p : Addr} (h : H p = some (.lst [.int 1])) : OddV K H (.ref p) := ⟨⟨_, ty_lst h, T.K_list_Ratio⟩, ⟨_, ty_lst h, T.K_list_Lowest⟩, .inl (.inl ⟨_, ty_lst h, by rfl⟩), .inr (.inl ⟨p, 1, rfl, h, by decide, by decide⟩), .inl ⟨p, rfl⟩, false, _, ty_lst h, by rfl⟩
theorem odd_dict {p : Addr} (h : H p = some (.dK [])) : OddV K H (.ref p) := ⟨⟨_, ty_dict h, T.K_dict_Ratio⟩, ⟨_, ty_dict h, T.K_dict_Lowest⟩, .inl (.inl ⟨_, ty_dict h, by rfl⟩), .inr (.inr ⟨p, rfl, h⟩), .inl ⟨p, rfl⟩, false, _, ty_dict h, by rfl⟩
theorem rat_low {q : Rat} (h : RQ (gA "Ratio" K) H v q) : NoC K "Lowest" H v := ⟨_, HasTy.rq T.C_Ratio h, T.K_Ratio_Lowest⟩
theorem rat_bad {q : Rat} (h : RQ (gA "Ratio" K) H v q) : BadI K H v := .inl (.inl ⟨_, HasTy.rq T.C_Ratio h, T.K_Ratio_int⟩)
theorem rat_kept {q : Rat} (h : RQ (gA "Ratio" K) H v q) : Kept K H v := by
  have hb : RIb K H v false := ⟨_, HasTy.rq T.C_Ratio h, T.K_Ratio_bool⟩
  obtain ⟨a, dx, rfl, _⟩ := h
  exact ⟨.inl ⟨a, rfl⟩, false, hb⟩
theorem zero_kept : Kept K H (.int 0) := ⟨.inr ⟨.num 0, rfl⟩, false, _, HasTy.int, by rfl⟩
theorem zero_noC : NoC K "Ratio" H (.int 0) := ⟨_, HasTy.int, T.K_int_Ratio⟩
end
/-- what is told of a refused number: a list of it -/
theorem told_num {E : XK} (h : StrW H v ∨ ∃ q, RQ (gA "Ratio" K) H v q ∧ Sm60 q) (k : ∀ d, H d = none → E (.ref (gA "InvalidNumber" K)) (some d) (upd H d (.xd [("given", v)]))) : NumE K v H E := by
  rcases h with h | ⟨q, h1, h2⟩
  · exact .inl ⟨h, k⟩
  · exact .inr ⟨⟨_, _, h1⟩, str_of h1 h2 ⟨⟨_, rfl⟩, k⟩⟩
theorem told_E {Q : VK} {σ : L2.St} (k : ∀ p H', Same H H' → H' p = some (.lst [v]) → Q (.ref p) H') : ∀ d, H d = none → atW (ofE (Etold K Q)) σ (.ref (gA "InvalidNumber" K)) (some d) (upd H d (.xd [("given", v)])) := fun d hd =>
  .inl ⟨rfl, d, v, rfl, upd_same, fun p hp => k p _ ((Same.new hd).trans (Same.new hp)) upd_same⟩
end
end LW
end
section
set_option Elab.async false
set_option linter.all false
set_option maxRecDepth 100000
set_option maxHeartbeats 4000000
set_option pp.maxSteps 700
set_option exponentiation.threshold 20000
namespace LW
open PySem PySem.Spec PyProof.Rows L2 Wo
local macro_rules | `(tactic| walk_at "lf") => `(tactic| first | assumption | (refine Up.up (by assumption) ?_; walk_at "lf") | (refine RAll.up (by assumption) ?_; walk_at "lf") | (refine Ob2.up (by assumption) ?_; walk_at "lf"))
local macro_rules | `(tactic| walk_at "side") => `(tactic| first | (unfold CMul; omega) | (unfold CDiv; omega) | (unfold CDivN; omega) | (unfold CPow; omega) | (show (0 : Int) < _; omega) | decide)
local macro_rules | `(tactic| walk_at "rd1") => `(tactic| first
  | ((with_reducible refine rd_var (v := ?v) ?h ?_); (case h => rfl))
  | with_reducible refine rd_c ?_
  | with_reducible refine rd_op ?_
  | with_reducible refine rd_I0 ?_
  | with_reducible refine rd_I ?_ ?_
  | with_reducible refine rd_U ?_
  | with_reducible refine rd_eqI ?_
  | with_reducible refine rd_neI ?_
  | with_reducible refine rd_eqS ?_
  | with_reducible refine rd_neS ?_
  | with_reducible refine rd_un ?_
  | with_reducible refine rd_test ?_
  | with_reducible refine rd_tB ?_
  | with_reducible refine rd_exB ?_
  | with_reducible refine rd_cons ?_
  | with_reducible refine rd_nil ?_
  | with_reducible refine rd_call ?_
  | with_reducible refine rd_cb ?_
  | with_reducible refine rd_seq ?_
  | with_reducible refine rd_asg ?_
  | with_reducible refine rd_gname ?_
  | with_reducible refine rd_ret ?_
  | with_reducible refine rd_ifS ?_
  | with_reducible refine rd_next ?_
  | with_reducible refine rd_drop ?_
  | with_reducible refine rd_if ?_
  | with_reducible refine rd_not ?_
  | with_reducible refine rd_and ?_
  | with_reducible refine rd_or ?_
  | with_reducible refine rd_andV ?_
  | with_reducible refine rd_orV ?_
  | with_reducible refine rd_notV ?_
  | with_reducible refine rd_chain ?_
  | with_reducible refine rd_slot ?_
  | with_reducible refine rd_sst ?_
  | with_reducible refine rd_par ?_
  | with_reducible refine rd_ex2 ?_
  | with_reducible refine rd_gcd ?_
  | with_reducible refine rd_prop ?_
  | with_reducible refine rd_sub ?_
  | with_reducible refine rd_lcm ?_ ?_
  | with_reducible refine rd_forL ?_
  | with_reducible refine rd_forT ?_
  | with_reducible refine rd_forR1 ?_
  | with_reducible refine rd_forZ ?_
  | with_reducible refine rd_lcL ?_
  | with_reducible refine rd_lcT ?_
  | with_reducible refine rd_lcR1 ?_
  | with_reducible refine rd_lcR2 ?_
  | with_reducible refine rd_lcZ ?_
  | with_reducible refine rd_lc2TT ?_
  | with_reducible refine rd_abs ?_
  | with_reducible refine rd_int ?_
  | with_reducible refine rd_intB ?_
  | with_reducible refine rd_max2 ?_
  | with_reducible refine rd_min2 ?_
  | with_reducible refine rd_tup ?_
  | with_reducible refine rd_lst ?_
  | with_reducible refine ite_T ?_
  | with_reducible refine ite_n ?_
  | with_reducible refine ite_y ?_
  | with_reducible refine ite_F ?_
  | with_reducible refine rd_retN ?_)
local macro_rules | `(tactic| walk_at "rd") => `(tactic| repeat walk_at "rd1")
local macro_rules | `(tactic| walk_at "sd") => `(tactic| first | exact Or.inl ⟨by decide, by decide⟩ | exact Or.inr ⟨by decide, by decide⟩ | (show (0 : Int) < _; decide +kernel) | exact ⟨by decide, by decide, by decide +kernel⟩ | exact ⟨by decide, by decide +kernel⟩)
section
variable {P : Program} {w : World} {K : PySem.W.Frag} {mg : Str → Option Value} {base : Heap}
set_option hygiene false in
local macro_rules | `(tactic| walk_at "rt") => `(tactic| first
  | walk_at "rd1"
  | with_reducible refine rd_exI ?_
  | with_reducible refine rd_forR2 ?_
  | with_reducible refine rd_gSub ?_
  | with_reducible refine rd_lcR2f ?_
  | with_reducible refine rd_bm ?_
  | with_reducible refine rd_callW ?_
  | with_reducible refine rd_methW ?_
  | with_reducible refine rd_sl ?_
  | with_reducible refine rd_noPart ?_
  | with_reducible refine rd_part ?_)
/-- a row: a list of a ratio and its pair -/
def RIt (K : PySem.W.Frag) : Rl Rat := fun H v q => ∃ a r t, v = .ref a ∧ H a = some (.lst [r, t]) ∧ RQ (gA "Ratio" K) H r q ∧ RQP K H t q
instance : Up (RIt K) := ⟨fun e ⟨a, r, t, h1, h2, h3, h4⟩ => ⟨a, r, t, h1, e _ _ h2, Up.up e h3, Up.up e h4⟩⟩
theorem rqp_hid {p : Addr} {H : Hp} {xs : List V} {v : V} {q : Rat} (h : RQP K H v q) (hp : H p = some (.lst xs)) : RQP K (hid p H) v q := by
  obtain ⟨a, x, y, rfl, hs, hx, hy⟩ := h
  exact ⟨a, x, y, rfl, sqT_hid hs hp, hx, hy⟩
/-- the rows -/
def Pool (K : PySem.W.Frag) (p : Addr) (H : Hp) (vs : List V) (its : List Rat) : Prop := H p = some (.lst vs) ∧ RAll (RIt K) (hid p H) vs its
theorem Pool.up {p : Addr} {H H' : Hp} {vs : List V} {its : List Rat} (h : Pool K p H vs its) (e : Same H H') : Pool K p H' vs its := ⟨e _ _ h.1, RAll.up (Same.hids e) h.2⟩
/-- a row, seen besides the rows -/
def RIp (K : PySem.W.Frag) (p : Addr) : Rl Rat := fun H v q => RIt K (hid p H) v q
instance {p : Addr} : Up (RIp K p) := ⟨fun e h => Up.up (R := RIt K) (Same.hids e) h⟩
theorem Pool.rl {p : Addr} {H : Hp} {vs : List V} {its : List Rat} (h : Pool K p H vs its) (hz : its.length ≤ 1000) : RL K (RIp K p) H (.ref p) its := by
  refine RL.at h.1 h.2 ?_
  rw [h.2.len]
  exact Nat.le_trans hz (by decide)
theorem Pool.add {p a : Addr} {H : Hp} {vs : List V} {its : List Rat} {r t : V} {q : Rat} (h : Pool K p H vs its) (hn : a ≠ p) (ha : H a = some (.lst [r, t])) (hr : RQ (gA "Ratio" K) H r q) (ht : RQP K H t q) :
    Pool K p (upd H p (.lst (vs ++ [.ref a]))) (vs ++ [.ref a]) (its ++ [q]) := by
  refine ⟨upd_same, ?_⟩
  rw [hid_upd_same]
  exact h.2.snoc ⟨a, r, t, rfl, by rw [hid_ne hn]; exact ha, rq_hid hr h.1, rqp_hid ht h.1⟩
theorem ix_it0 {H : Hp} {Q : VK} {v : V} {q : Rat} (h : RIt K H v q) (k : ∀ r, RQ (gA "Ratio" K) H r q → Q r H) : rIxL K v (.int 0) H Q := by
  obtain ⟨a, r, t, rfl, h1, h2, h3⟩ := h
  exact rd_ixC (n := 0) h1 (k r h2)
theorem ix_it1 {H : Hp} {Q : VK} {v : V} {q : Rat} (h : RIt K H v q) (k : ∀ r, RQP K H r q → Q r H) : rIxL K v (.int 1) H Q := by
  obtain ⟨a, r, t, rfl, h1, h2, h3⟩ := h
  exact rd_ixC (n := 1) h1 (k t h3)
theorem fits_div {t b : Int} {n : Nat} (ht : t.natAbs ≤ n) (hs : b.natAbs ≤ n) (h1 : 1 ≤ n) : (Rat.divInt t b).num.natAbs ≤ n ∧ (Rat.divInt t b).den ≤ n := by
  constructor
  · rw [Rat.num_divInt]
    refine Nat.le_trans (Int.natAbs_ediv_le_natAbs _ _) ?_
    rw [Int.natAbs_mul, Int.natAbs_sign]
    split <;> omega
  · rw [Rat.den_divInt]
    split
    · exact h1
    · exact Nat.le_trans (Nat.div_le_self _ _) hs
theorem sm_div {t b : Int} (ht : inW t) (hb : inW b) : Sm60 (Rat.divInt t b) := by
  unfold inW at ht hb
  unfold Sm60
  have e : ((10 : Int) ^ 60) = ((10 ^ 60 : Nat) : Int) := by decide +kernel
  have e2 : 2 ≤ (10 : Nat) ^ 60 := by decide +kernel
  rw [e] at ht hb
  generalize (10 : Nat) ^ 60 = a at *
  obtain ⟨h1, h2⟩ := fits_div (t := t) (b := b) (n := a - 1) (by omega) (by omega) (by omega)
  omega
theorem one_terms (t : Int) : (Rat.divInt t 1).num = t ∧ (Rat.divInt t 1).den = 1 := by
  rw [Rat.num_divInt, Rat.den_divInt]
  constructor
  · simp
  · simp
theorem and_join {b : Bool} {tt : TT} {σ : L2.St} {H : Hp} {C : Bool → Hp → Prop} (h1 : b = true → ∀ C : Bool → Hp → Prop, (∀ H', Same H H' → C false H') → tt σ H C) (h2 : ∀ H', Same H H' → C false H') : if b = true then tt σ H C else C false H := by
  cases b with
  | true => exact (if_pos rfl).mpr (h1 rfl C h2)
  | false => exact (if_neg (by decide)).mpr (h2 H (Same.refl _))
theorem mul_c {t c : Int} (ht : inW t) (hc : -6 ≤ c ∧ c ≤ 30) : CMulW t c := mul_of (lt60 ht) (b := 5) (by omega)
theorem pow60 : CPow 10 60 := ⟨by decide, by decide, by decide⟩
theorem inW_of {i : Int} (h : (i.natAbs : Int) < 10 ^ Int.toNat 60) : inW i := by
  rw [show Int.toNat 60 = 60 from rfl] at h
  unfold inW
  omega
theorem rqp_one {H : Hp} {p : Addr} {t : Int} (h : H p = some (.tup [.int t, .int 1])) : RQP K H (.ref p) (Rat.divInt t 1) := by
  obtain ⟨h1, h2⟩ := one_terms t
  refine ⟨p, _, _, rfl, .inl (.inl h), ?_, ?_⟩
  · show V.int t = .int _
    rw [h1]
  · show V.int 1 = .int _
    rw [h2]
    rfl
theorem rall_mapB {α : Type} {R S : Rl α} {H : Hp} (hf : ∀ x a, R H x a → S H x a) : ∀ {vs : List V} {as : List α}, RAll R H vs as → RAll S H vs as
  | _, _, .nil => .nil
  | _, _, .cons h t => .cons (hf _ _ h) (rall_mapB hf t)
theorem bad_st {H : Hp} {v : V} (h : RBad K H v ()) : StrW H v ∨ ∃ q, RQ (gA "Ratio" K) H v q ∧ Sm60 q := h.imp (fun h => h.st) id
theorem bad_facts (T : Tx P K mg) {H : Hp} {v : V} (h : RBad K H v ()) : NoC K "Lowest" H v ∧ BadI K H v ∧ Kept K H v ∧ True := by
  rcases h with h | ⟨q, h, _⟩
  · exact ⟨h.nl, h.bad, h.kept, trivial⟩
  · exact ⟨rat_low T h, rat_bad T h, rat_kept T h, trivial⟩
theorem wrs_st {H : Hp} {v : V} (h : RWrs K H v ()) : StrW H v ∨ ∃ q, RQ (gA "Ratio" K) H v q ∧ Sm60 q := by
  rcases h with h | rfl
  · exact .inl h.st
  · exact .inl (.inl (by show (0 : Int).natAbs.log2 < 1920; decide))
theorem wrs_facts (T : Tx P K mg) {H : Hp} {v : V} (h : RWrs K H v ()) : (BadI K H v ∨ v = .int 0) ∧ Kept K H v ∧ NoC K "Ratio" H v := by
  rcases h with h | rfl
  · exact ⟨.inl h.bad, h.kept, h.nr⟩
  · exact ⟨.inr rfl, zero_kept T, zero_noC T⟩
/-- what stays -/
structure Bn (K : PySem.W.Frag) (u a6 : Addr) (L : List V) (vb vw one : V) (q1 : Rat) (H : Hp) : Prop where
  bad : RBad K H vb ()
  wrs : RWrs K H vw ()
  one : RQ (gA "Ratio" K) H one q1
  urn : H u = some (UrnO u Pu)
  lst : H a6 = some (.lst L)
  odds : RAll (RO K) H L (List.replicate 9 ())
theorem Bn.upN {u a6 : Addr} {L : List V} {vb vw one : V} {q1 : Rat} {H H' : Hp} (e : LamX.ExtN H H') (h : Bn K u a6 L vb vw one q1 H) : Bn K u a6 L vb vw one q1 H' :=
  ⟨Wo.upN (R := RBad K) e h.bad, Wo.upN (R := RWrs K) e h.wrs, Wo.upN e h.one, urn_noT e h.urn, ext_lst e h.lst, Paired.mono (fun _ _ q => Wo.upN (R := RO K) e q) h.odds⟩
/-- the state of the loop -/
def Ch (K : PySem.W.Frag) (u p : Addr) (H : Hp) (i : Nat) (σ : L2.St) (H' : Hp) : Prop := ∃ vs its x2 x3 x4 x5, Same H H' ∧ Pool K p H' vs its ∧ its.length = i ∧ (∀ q ∈ its, Sm60 q) ∧
  σ = [some (.ref u), some (.ref p), x2, x3, x4, x5, none, none, none, none]
def sp_w_right (K : PySem.W.Frag) : Sp := sp1 fun x H Q _ => ∃ u, x = .ref u ∧ H u = some (UrnO u Pu) ∧ LamX.Tabs (TbK K ts) H ∧ ∀ H', LamX.ExtN H H' → LamX.Tabs (TbK K ts) H' → Q (.bl true) H'
abbrev n_w_right : List Str := ["_law_urn_here", "_law_found", "_law_turn", "_law_top", "_law_bottom", "_law_times", "_law_one", "_law_odd", "_law_bad", "_law_worse"]
theorem sc_w_right : FnScope n_w_right ["_law_urn_here"] (defScope s_w_right) := ⟨rfl, rfl, rfl, by decide +kernel, rfl, by decide +kernel, by decide +kernel⟩
theorem cal_w_right (T : Tx P K mg) [B : Tbs K mg base ts] : Cal P w K mg base 18 "_law_right" (sp_w_right K) := by
  refine cal_ofC (k := 17) T.G_w_right T.D_w_right sc_w_right (fun _ _ _ _ _ _ us hl => match us, hl with | [_], _ => rfl) (fun vs H Q E h => ?_) (fun cdv A outer s H vs Q E hcd hr h => ?_)
  · obtain ⟨v0, rfl, _⟩ := h
    rfl
  obtain ⟨v0, rfl, h⟩ := h
  refine ⟨_, pss_cons (ps_set (i := 1) sc_w_right.nd rfl (by first | exact Or.inl rfl | exact Or.inr rfl) (pe_lst pa_nil))
      (pss_cons (ps_for (passes_of rfl) rfl (pi_range1 rfl T.N_range (pa_cons pe_int pa_nil)) (pg_name (i := 2) sc_w_right.nd rfl (by first | exact Or.inl rfl | exact Or.inr rfl))
        (pss_cons (ps_par (i := 3) (j := 4) (by rfl) sc_w_right.nd rfl rfl (by decide) rfl rfl (pa_cons (pc (cal_w_whole T) hr (pa_cons (pv 0) pa_nil)) (pa_cons (pc (cal_w_whole T) hr (pa_cons (pv 0) pa_nil)) pa_nil)) (by rfl))
      (pss_cons (ps_set (i := 4) sc_w_right.nd rfl (by first | exact Or.inl rfl | exact Or.inr rfl) (pe_ifExp (pt_cmpR op_ne (pv 4) pe_int (nomark _)) (pv 4) (pe_op op_sub pe_int (pe_op op_mul pe_int (pc (cal_drawn T) hr (pa_cons (pv 0) (pa_cons pe_int pa_nil)))))))
      (pss_cons (ps_set (i := 5) sc_w_right.nd rfl (by first | exact Or.inl rfl | exact Or.inr rfl) (pc (cal_w_one_of T) hr (pa_cons (pv 0) (pa_cons (pe_lst (pa_cons pe_int (pa_cons (pe_un un_neg pe_int) (pa_cons pe_int (pa_cons (pe_un un_neg pe_int) (pa_cons pe_int pa_nil)))))) pa_nil))))
      (pss_cons (ps_if (PW.pt (pw_or (pt_not (pt_val (pc (cal_w_is_shown T) hr (pa_cons (pmW (ctor_Ratio T) hr takesE (pa_cons (pv 3) (pa_cons (pv 4) pa_nil))) (pa_cons (pc (cal_w_lowest T) hr (pa_cons (pv 3) (pa_cons (pv 4) pa_nil))) pa_nil))))) (pw_or1 (pt_not (pt_val (pc (cal_w_is_shown T) hr (pa_cons (pmW (ctor_Ratio T) hr takesE (pa_cons (pv 3) pa_nil)) (pa_cons (pe_tup (pa_cons (pv 3) (pa_cons pe_int pa_nil))) pa_nil))))))))
        (pss_one (ps_ret pe_bl))
        (pss_nil))
      (pss_cons (ps_if (PW.pt (pw_and (pt_cmpR op_lt (pe_callB bi_abs (by rfl) T.N_abs (by decide +kernel) (pa_cons (pe_op op_mulW (pv 3) (pv 5)) pa_nil)) (pe_op op_pow pe_int pe_int) (nomark _)) (pw_and (pt_cmpR op_lt (pe_callB bi_abs (by rfl) T.N_abs (by decide +kernel) (pa_cons (pe_op op_mulW (pv 4) (pv 5)) pa_nil)) (pe_op op_pow pe_int pe_int) (nomark _)) (pw_and1 (pt_cmpR (neX P w K mg base hr) (pmW (ctor_Ratio T) hr takesE (pa_cons (pe_op op_mulW (pv 3) (pv 5)) (pa_cons (pe_op op_mulW (pv 4) (pv 5)) pa_nil))) (pmW (ctor_Ratio T) hr takesE (pa_cons (pv 3) (pa_cons (pv 4) pa_nil))) (nomark _))))))
        (pss_one (ps_ret pe_bl))
        (pss_nil))
      (pss_one (ps_expr (pe_bm PySem.F.plainAttrs_list PySem.F.slot_list_append PySem.F.type_list_append mt_append (pv 1) (pa_cons (pe_lst (pa_cons (pmW (ctor_Ratio T) hr takesE (pa_cons (pv 3) (pa_cons (pv 4) pa_nil))) (pa_cons (pc (cal_w_lowest T) hr (pa_cons (pv 3) (pa_cons (pv 4) pa_nil))) pa_nil))) pa_nil))))))))))
      (pss_cons (ps_if (pt_not (pt_val (pc (cal_w_order_right T) hr (pa_cons (pe_ix (kIxL K) (pe_ix (kIxL K) (pv 1) pe_int (fun _ _ => rfl)) pe_int (fun _ _ => rfl)) (pa_cons (pe_ix (kIxL K) (pe_ix (kIxL K) (pv 1) pe_int (fun _ _ => rfl)) pe_int (fun _ _ => rfl)) (pa_cons (pe_ix (kIxL K) (pe_ix (kIxL K) (pv 1) pe_int (fun _ _ => rfl)) pe_int (fun _ _ => rfl)) (pa_cons (pe_ix (kIxL K) (pe_ix (kIxL K) (pv 1) pe_int (fun _ _ => rfl)) pe_int (fun _ _ => rfl)) pa_nil)))))))
        (pss_one (ps_ret pe_bl))
        (pss_nil))
      (pss_cons (ps_asg (pe_tup (pa_cons (pe_ix (kIxL K) (pe_ix (kIxL K) (pv 1) pe_int (fun _ _ => rfl)) pe_int (fun _ _ => rfl)) (pa_cons (pe_lst (pa_cons pe_non (pa_cons pe_bl (pa_cons pe_bl (pa_cons pe_str (pa_cons (pe_op op_pow pe_int pe_int) (pa_cons (pe_un un_neg (pe_op op_pow pe_int pe_int)) (pa_cons (pe_tup (pa_cons pe_int pa_nil)) (pa_cons (pe_lst (pa_cons pe_int pa_nil)) (pa_cons pe_dnewK pa_nil)))))))))) pa_nil))) (kTup K (by rfl) (pgs_cons (pg_name (i := 6) sc_w_right.nd rfl (by first | exact Or.inl rfl | exact Or.inr rfl)) (pgs_cons (pg_name (i := 7) sc_w_right.nd rfl (by first | exact Or.inl rfl | exact Or.inr rfl)) pgs_nil))))
      (pss_cons (ps_asg (pe_tup (pa_cons (pc (cal_w_one_of T) hr (pa_cons (pv 0) (pa_cons (pe_op op_cat (pv 7) (pe_lst (pa_cons (pv 6) pa_nil))) pa_nil))) (pa_cons (pc (cal_w_one_of T) hr (pa_cons (pv 0) (pa_cons (pe_op op_cat (pv 7) (pe_lst (pa_cons pe_int pa_nil))) pa_nil))) pa_nil))) (kTup K (by rfl) (pgs_cons (pg_name (i := 8) sc_w_right.nd rfl (by first | exact Or.inl rfl | exact Or.inr rfl)) (pgs_cons (pg_name (i := 9) sc_w_right.nd rfl (by first | exact Or.inl rfl | exact Or.inr rfl)) pgs_nil))))
      (pss_cons (ps_if (pt_not (pt_val (pc (cal_w_is_kept T) hr (pa_cons (pe_lamW (i := 0) T.G_w_refused T.D_w_refused sc_w_refused (fun _ _ _ _ _ _ us hl => match us, hl with | [_], _ => rfl) (gives_w_refused T) B rfl hcd hr (fun _ _ _ _ _ _ _ hr => pmW (ctor_Ratio T) hr takesL (pa_cons (pv 8) (pa_cons (pv 9) pa_nil))) (hL := by rfl)) (pa_cons (pv 8) pa_nil)))))
        (pss_one (ps_ret pe_bl))
        (pss_nil))
      (pss_cons (ps_if (pt_not (pt_val (pc (cal_w_is_kept T) hr (pa_cons (pe_lamW (i := 0) T.G_w_refused T.D_w_refused sc_w_refused (fun _ _ _ _ _ _ us hl => match us, hl with | [_], _ => rfl) (gives_w_refused T) B rfl hcd hr (fun _ _ _ _ _ _ _ hr => pmW (ctor_Ratio T) hr takesL (pa_cons (pv 8) pa_nil)) (hL := by rfl)) (pa_cons (pv 8) pa_nil)))))
        (pss_one (ps_ret pe_bl))
        (pss_nil))
      (pss_cons (ps_if (pt_not (pt_val (pc (cal_w_is_kept T) hr (pa_cons (pe_lamW (i := 0) T.G_w_refused T.D_w_refused sc_w_refused (fun _ _ _ _ _ _ us hl => match us, hl with | [_], _ => rfl) (gives_w_refused T) B rfl hcd hr (fun _ _ _ _ _ _ _ hr => pmW (ctor_Ratio T) hr takesL (pa_cons pe_int (pa_cons (pv 9) pa_nil))) (hL := by rfl)) (pa_cons (pv 9) pa_nil)))))
        (pss_one (ps_ret pe_bl))
        (pss_nil))
      (pss_cons (ps_if (pt_cmpR (op_or op_ne (neX P w K mg base hr)) (pe_lamW (i := 0) T.G_w_refused T.D_w_refused sc_w_refused (fun _ _ _ _ _ _ us hl => match us, hl with | [_], _ => rfl) (gives_w_refused T) B rfl hcd hr (fun _ _ _ _ _ _ _ hr => pe_methW (cal_Ratio_is_less T) T.O_Ratio_is_less T.C_Ratio.cl hr takesL (pv 6) (pa_cons (pv 9) pa_nil)) (hL := by rfl)) pe_str (nomark _))
        (pss_one (ps_ret pe_bl))
        (pss_nil))
      (pss_one (ps_ret (pe_not (pc (cal_is_ratio T) hr (pa_cons (pc (cal_w_one_of T) hr (pa_cons (pv 0) (pa_cons (pe_op op_cat (pv 7) (pe_lst (pa_cons pe_int (pa_cons pe_int (pa_cons (pe_tup (pa_cons (pv 6) pa_nil)) pa_nil))))) pa_nil))) pa_nil))))))))))))), ?_⟩
  obtain ⟨u, rfl, hu, hT, k⟩ := h
  repeat walk_at "rt"
  refine ⟨by show 0 ≤ sizeLine; decide, fun p hp => ?_⟩
  generalize he : upd _ _ _ = H1
  have e1 : Same H H1 := he ▸ Same.new (o := .lst _) hp
  have h1 : H1 p = some (.lst []) := he ▸ (upd_same (o := .lst _))
  have up : u ≠ p := ne_of_none hu hp
  repeat walk_at "rt"
  refine forRN (by omega) (by omega) (forN (Ch K u p H) ⟨[], [], none, none, none, none, e1, ⟨h1, .nil⟩, rfl, (fun q h => by cases h), rfl⟩ ?_ ?_)
  · rintro i σ' H' hi ⟨vs, its, x2, x3, x4, x5, e, hP, hn, hf, rfl⟩
    repeat walk_at "rt"
    refine ⟨_, rfl, u, rfl, e _ _ hu, fun t H3 ht e3 => ?_⟩
    repeat walk_at "rt"
    refine ⟨_, rfl, u, rfl, e3 _ _ (e _ _ hu), fun b0 H4 hb0 e4 => ?_⟩
    replace ht : inW t := ht
    replace hb0 : inW b0 := hb0
    have e34 := e3.trans e4
    replace e := e.trans e34
    replace hP := hP.up e34
    clear e3 e4 e34
    repeat walk_at "rt"
    by_cases hz : b0 = 0
    case' pos =>
      subst hz
      refine ite_n' rfl ?_
      repeat walk_at "rt"
      refine ⟨_, _, rfl, u, _, rfl, e _ _ hu, rfl, by decide, by decide, fun d H5 d0 d1 e5 => ?_⟩
      repeat walk_at "rt"
      rotate_left
      exact Or.inl ⟨by decide, by decide⟩
      replace e := e.trans e5
      replace hP := hP.up e5
      have hb : inW (1 - 2 * d) := ⟨by omega, by omega⟩
      have hbz : 1 - 2 * d ≠ 0 := by omega
      generalize 1 - 2 * d = b at hb hbz ⊢
      clear e5 d0 d1 hb0
    case' neg =>
      refine ite_y' (by rw [decide_eq_false hz]; rfl) ?_
      repeat walk_at "rt"
      have hb := hb0
      have hbz := hz
      clear hb0 hz
      generalize b0 = b at hb hbz ⊢
    all_goals
      refine ⟨by show 5 ≤ sizeLine; decide, fun p6 hp6 => ?_⟩
      generalize he6 : upd _ _ _ = H6
      obtain ⟨e6, k6⟩ := same_upd he6 hp6
      replace e := e.trans e6
      replace hP := hP.up e6
      repeat walk_at "rt"
      refine ⟨_, _, rfl, u, Int, RI, inferInstance, [1, -1, 2, -6, 30], rfl, e _ _ hu, RL.at k6 (RAll.ints (ns := [1, -1, 2, -6, 30])) (by show 5 ≤ sizeLine; decide), by show 0 < 5; decide, by show 5 ≤ 1000; decide, fun c vc H7 hc e7 hvc => ?_⟩
      obtain rfl := hvc
      have hc0 : c ≠ 0 := by
        simp only [List.mem_cons, List.not_mem_nil, or_false] at hc
        omega
      have hc1 : -6 ≤ c ∧ c ≤ 30 := by
        simp only [List.mem_cons, List.not_mem_nil, or_false] at hc
        omega
      replace e := e.trans e7
      replace hP := hP.up e7
      clear hc e6 k6 he6 hp6 e7
      have hq : Sm60 (Rat.divInt t b) := sm_div ht hb
      have hq1 : Sm60 (Rat.divInt t 1) := sm_div ht (by decide)
      repeat walk_at "rt"
      refine ⟨_, _, .inl rfl, .inl ⟨_, .inr ⟨t, b, rfl, rfl, hbz, ht, hb, rfl⟩, fun r H8 e8 hr => ?_⟩⟩
      repeat walk_at "rt"
      refine ⟨_, _, rfl, t, b, rfl, rfl, hbz, lt60 ht, lt60 hb, fun y H9 e9 hy => ?_⟩
      repeat walk_at "rt"
      refine ⟨_, _, rfl, _, Up.up e9 hr, hy, hq, fun H10 e10 => ?_⟩
      have f10 := e8.trans (e9.trans e10)
      replace e := e.trans f10
      replace hP := hP.up f10
      clear hr hy e8 e9 e10 f10
      repeat walk_at "rt"
      refine ⟨_, .int 1, .inr ⟨rfl, rfl⟩, .inl ⟨_, .inr ⟨t, 1, rfl, rfl, by decide, ht, by decide, rfl⟩, fun r H11 e11 hr => ?_⟩⟩
      repeat walk_at "rt"
      refine ⟨by show 2 ≤ sizeLine; decide, fun p12 hp12 => ?_⟩
      generalize he12 : upd _ _ _ = H12
      obtain ⟨e12, k12⟩ := same_upd he12 hp12
      repeat walk_at "rt"
      refine ⟨_, _, rfl, _, Up.up e12 hr, rqp_one k12, hq1, fun H13 e13 => ?_⟩
      have f13 := e11.trans (e12.trans e13)
      replace e := e.trans f13
      replace hP := hP.up f13
      clear hr k12 he12 hp12 e11 e12 e13 f13
      repeat walk_at "rt"
      rotate_left
      exact pow60
      exact mul_c ht hc1
      have gt : decide (((t * c).natAbs : Int) < 10 ^ Int.toNat 60) = true → inW (t * c) := fun z => inW_of (of_decide_eq_true z)
      generalize decide (((t * c).natAbs : Int) < 10 ^ Int.toNat 60) = g1 at gt ⊢
      refine and_join (fun g2 C hC => ?_) (fun H14 e14 => ?_)
      · replace gt := gt g2
        repeat walk_at "rt"
        · have gb : decide (((b * c).natAbs : Int) < 10 ^ Int.toNat 60) = true → inW (b * c) := fun z => inW_of (of_decide_eq_true z)
          generalize decide (((b * c).natAbs : Int) < 10 ^ Int.toNat 60) = g3 at gb ⊢
          cases g3 with
          | false =>
            repeat walk_at "rt"
            exact hC _ (Same.refl _)
          | true =>
            replace gb := gb rfl
            repeat walk_at "rt"
            · refine ⟨_, _, .inl rfl, .inl ⟨_, .inr ⟨t * c, b * c, rfl, rfl, Int.mul_ne_zero hbz hc0, gt, gb, rfl⟩, fun r1 H14 e14 hr1 => ?_⟩⟩
              repeat walk_at "rt"
              refine ⟨_, _, .inl rfl, .inl ⟨_, .inr ⟨t, b, rfl, rfl, hbz, ht, hb, rfl⟩, fun r2 H15 e15 hr2 => ?_⟩⟩
              refine rd_neX (nc_rat (eqF T) T.O_Ratio___eq__ T.Q_Ratio___ne__ T.C_Ratio.si.cm (by decide)) (Up.up e15 hr1) hr2 fun H16 e16 => ?_
              rw [Rat.divInt_mul_right hc0, decide_eq_true rfl]
              repeat walk_at "rt"
              exact hC _ (e14.trans (e15.trans e16))
            · exact mul_c hb hc1
            · exact mul_c ht hc1
        · exact pow60
        · exact mul_c hb hc1
      replace e := e.trans e14
      replace hP := hP.up e14
      clear gt e14
      repeat walk_at "rt"
      refine ⟨.inl ⟨rfl, _, .inl (.inl hP.1)⟩, ?_⟩
      repeat walk_at "rt"
      refine ⟨_, _, .inl rfl, .inl ⟨_, .inr ⟨t, b, rfl, rfl, hbz, ht, hb, rfl⟩, fun r2 H15 e15 hr2 => ?_⟩⟩
      repeat walk_at "rt"
      refine ⟨_, _, rfl, t, b, rfl, rfl, hbz, lt60 ht, lt60 hb, fun y H16 e16 hy => ?_⟩
      repeat walk_at "rt"
      refine ⟨by show 2 ≤ sizeLine; decide, fun a ha => ?_⟩
      generalize he17 : upd _ _ _ = H17
      obtain ⟨e17, k17⟩ := same_upd he17 ha
      have f17 := e15.trans (e16.trans e17)
      replace e := e.trans f17
      have hna : a ≠ p := (ne_of_none (hP.up (e15.trans e16)).1 ha).symm
      replace hP := hP.up f17
      repeat walk_at "rt"
      refine rd_append hP.1 (n := 1000) (by rw [hP.2.len]; omega) ?_
      refine ⟨_, its ++ [Rat.divInt t b], _, _, _, _, Same.grow e hp, hP.add hna k17 (Up.up (e16.trans e17) hr2) (Up.up (R := RQP K) e17 hy), by rw [List.length_append, hn]; rfl, ?_, rfl⟩
      intro q2 hq2
      rcases List.mem_append.mp hq2 with hq2 | hq2
      · exact hf q2 hq2
      · rw [List.mem_singleton.mp hq2]
        exact hq
  · rintro σ' H' ⟨vs, its, x2, x3, x4, x5, e, hP, hn, hf, rfl⟩
    obtain ⟨q1, q2, rfl⟩ : ∃ q1 q2, its = [q1, q2] := by
      rcases its with _ | ⟨q1, _ | ⟨q2, _ | ⟨q3, t⟩⟩⟩
      · cases hn
      · cases hn
      · exact ⟨q1, q2, rfl⟩
      · cases hn
    have s1 : Sm60 q1 := hf q1 List.mem_cons_self
    have s2 : Sm60 q2 := hf q2 (List.mem_cons_of_mem _ List.mem_cons_self)
    have hL := hP.rl (by show 2 ≤ 1000; decide)
    have hT' := LamX.Tabs.ext hT e
    have hu' := e _ _ hu
    repeat walk_at "rt"
    refine rd_ixL (n := 0) (a := q1) hL rfl (fun w1 hw1 => ?_) rfl
    repeat walk_at "rt"
    refine ix_it0 (Up.up (R := RIt K) Same.unhid hw1) fun r1 hr1 => ?_
    repeat walk_at "rt"
    refine rd_ixL (n := 1) (a := q2) hL rfl (fun w2 hw2 => ?_) rfl
    repeat walk_at "rt"
    refine ix_it0 (Up.up (R := RIt K) Same.unhid hw2) fun r2 hr2 => ?_
    repeat walk_at "rt"
    refine rd_ixL (n := 0) (a := q1) hL rfl (fun w3 hw3 => ?_) rfl
    repeat walk_at "rt"
    refine ix_it1 (Up.up (R := RIt K) Same.unhid hw3) fun t1 ht1 => ?_
    repeat walk_at "rt"
    refine rd_ixL (n := 1) (a := q2) hL rfl (fun w4 hw4 => ?_) rfl
    repeat walk_at "rt"
    refine ix_it1 (Up.up (R := RIt K) Same.unhid hw4) fun t2 ht2 => ?_
    repeat walk_at "rt"
    refine ⟨_, _, _, _, rfl, q1, q2, hr1, hr2, ht1, ht2, s1, s2, fun H2 e2 => ?_⟩
    replace hL := Up.up e2 hL
    replace hT' := LamX.Tabs.ext hT' e2
    replace hu' := e2 _ _ hu'
    have x2' := (LamX.ExtN.of (e.trans e2))
    clear hr1 hr2 ht1 ht2 hw1 hw2 hw3 hw4 hP e e2
    repeat walk_at "rt"
    refine rd_ixL (n := 0) (a := q1) hL rfl (fun w5 hw5 => ?_) rfl
    repeat walk_at "rt"
    refine ix_it0 (Up.up (R := RIt K) Same.unhid hw5) fun one hone => ?_
    clear hL hw5
    repeat walk_at "rt"
    rotate_left
    · exact pow60
    · exact pow60
    refine ⟨by show 1 ≤ sizeLine; decide, fun a3 ha3 => ?_⟩
    generalize he3 : upd _ _ _ = H3
    obtain ⟨e3, k3⟩ := same_upd he3 ha3
    repeat walk_at "rt"
    refine ⟨by show 1 ≤ sizeLine; decide, fun a4 ha4 => ?_⟩
    generalize he4 : upd _ _ _ = H4
    obtain ⟨e4, k4⟩ := same_upd he4 ha4
    repeat walk_at "rt"
    refine rd_dnew fun a5 ha5 => ?_
    generalize he5 : upd _ _ _ = H5
    obtain ⟨e5, k5⟩ := same_upd he5 ha5
    repeat walk_at "rt"
    refine ⟨by show 9 ≤ sizeLine; decide, fun a6 ha6 => ?_⟩
    generalize he6 : upd _ _ _ = H6
    obtain ⟨e6, k6⟩ := same_upd he6 ha6
    have odds : ∀ G, Same H6 G → RAll (RO K) G [.non, .bl true, .bl false, .str "1", .int (10 ^ Int.toNat 60), .int (-10 ^ Int.toNat 60), .ref a3, .ref a4, .ref a5] (List.replicate 9 ()) := fun G g =>
      .cons (odd_none T) (.cons (odd_bool T) (.cons (odd_bool T) (.cons (odd_str T) (.cons (odd_int T (by decide +kernel) (by decide +kernel)) (.cons (odd_int T (by decide +kernel) (by decide +kernel)) (.cons (odd_tup T (g _ _ (e6 _ _ (e5 _ _ (e4 _ _ k3))))) (.cons (odd_lst T (g _ _ (e6 _ _ (e5 _ _ k4)))) (.cons (odd_dict T (g _ _ (e6 _ _ k5))) .nil))))))))
    have f6 := e3.trans (e4.trans (e5.trans e6))
    replace hone := Up.up f6 hone
    replace hT' := LamX.Tabs.ext hT' f6
    replace hu' := f6 _ _ hu'
    replace x2' := x2'.trans (LamX.ExtN.of f6)
    clear e3 e4 e5 e6 f6 he3 he4 he5 he6 ha3 ha4 ha5 ha6 k3 k4 k5
    repeat walk_at "rt"
    refine ⟨by show 2 ≤ sizeLine; decide, fun a7 ha7 => ?_⟩
    generalize he7 : upd _ _ _ = H7
    obtain ⟨e7, k7⟩ := same_upd he7 ha7
    refine gok_pair (.inl (.inl k7)) gok_name gok_name _ (Same.refl _) _ ?_
    repeat walk_at "rt"
    refine ⟨by show 1 ≤ sizeLine; decide, fun a8 ha8 => ?_⟩
    generalize he8 : upd _ _ _ = H8
    obtain ⟨e8, k8⟩ := same_upd he8 ha8
    repeat walk_at "rt"
    refine ⟨a6, a8, _, _, rfl, rfl, (e7.trans e8) _ _ k6, k8, by show 10 ≤ sizeLine; decide, fun a9 ha9 => ?_⟩
    generalize he9 : upd _ _ _ = H9
    obtain ⟨e9, k9⟩ := same_upd he9 ha9
    have f9 := e7.trans (e8.trans e9)
    replace hone := Up.up f9 hone
    replace hT' := LamX.Tabs.ext hT' f9
    replace hu' := f9 _ _ hu'
    replace x2' := x2'.trans (LamX.ExtN.of f9)
    replace k6 := f9 _ _ k6
    replace odds := fun G (g : Same H9 G) => odds G (f9.trans g)
    have bads : RAll (RBad K) H9 [.non, .bl true, .bl false, .str "1", .int (10 ^ Int.toNat 60), .int (-10 ^ Int.toNat 60), .ref a3, .ref a4, .ref a5, one] (List.replicate 9 () ++ [()]) := (rall_mapB (fun _ _ h => .inl h) (odds _ (Same.refl _))).append (.cons (.inr ⟨q1, hone, s1⟩) .nil)
    clear e7 e8 e9 f9 he7 he8 he9 ha7 ha8 ha9 k7 k8
    repeat walk_at "rt"
    refine ⟨_, _, rfl, u, Unit, RBad K, inferInstance, _, rfl, hu', RL.at k9 bads (by show 10 ≤ sizeLine; decide), by decide, by decide, fun _ vb H10 _ e10 hb => ?_⟩
    replace hb : RBad K H10 vb () := hb
    replace hone := Up.up e10 hone
    replace hT' := LamX.Tabs.ext hT' e10
    replace hu' := e10 _ _ hu'
    replace x2' := x2'.trans (LamX.ExtN.of e10)
    replace k6 := e10 _ _ k6
    replace odds := fun G (g : Same H10 G) => odds G (e10.trans g)
    clear bads k9 e10
    repeat walk_at "rt"
    refine ⟨by show 1 ≤ sizeLine; decide, fun b1 hb1 => ?_⟩
    generalize he1 : upd _ _ _ = J1
    obtain ⟨g1, l1⟩ := same_upd he1 hb1
    repeat walk_at "rt"
    refine ⟨a6, b1, _, _, rfl, rfl, g1 _ _ k6, l1, by show 10 ≤ sizeLine; decide, fun b2 hb2 => ?_⟩
    generalize he2 : upd _ _ _ = J2
    obtain ⟨g2, l2⟩ := same_upd he2 hb2
    have f2 := g1.trans g2
    replace hb := Up.up (R := RBad K) f2 hb
    replace hone := Up.up f2 hone
    replace hT' := LamX.Tabs.ext hT' f2
    replace hu' := f2 _ _ hu'
    replace x2' := x2'.trans (LamX.ExtN.of f2)
    replace k6 := f2 _ _ k6
    replace odds := fun G (g : Same J2 G) => odds G (f2.trans g)
    have wrs : RAll (RWrs K) J2 [.non, .bl true, .bl false, .str "1", .int (10 ^ Int.toNat 60), .int (-10 ^ Int.toNat 60), .ref a3, .ref a4, .ref a5, .int 0] (List.replicate 9 () ++ [()]) := (rall_mapB (fun _ _ h => .inl h) (odds _ (Same.refl _))).append (.cons (.inr rfl) .nil)
    clear g1 g2 f2 he1 he2 hb1 hb2 l1
    repeat walk_at "rt"
    refine ⟨_, _, rfl, u, Unit, RWrs K, inferInstance, _, rfl, hu', RL.at l2 wrs (by show 10 ≤ sizeLine; decide), by decide, by decide, fun _ vw J3 _ g3 hw => ?_⟩
    replace hw : RWrs K J3 vw () := hw
    repeat walk_at "rt"
    refine ⟨by show 2 ≤ sizeLine; decide, fun b4 hb4 => ?_⟩
    generalize he4 : upd _ _ _ = J4
    obtain ⟨g4, l4⟩ := same_upd he4 hb4
    refine gok_pair (.inl (.inl l4)) gok_name gok_name _ (Same.refl _) _ ?_
    have f4 := g3.trans g4
    replace hb := Up.up (R := RBad K) f4 hb
    replace hw := Up.up (R := RWrs K) g4 hw
    replace hone := Up.up f4 hone
    replace hT' := LamX.Tabs.ext hT' f4
    replace hu' := f4 _ _ hu'
    replace x2' := x2'.trans (LamX.ExtN.of f4)
    replace k6 := f4 _ _ k6
    replace odds := fun G (g : Same J4 G) => odds G (f4.trans g)
    clear wrs l2 l4 g3 g4 f4 he4 hb4
    repeat walk_at "rt"
    have bn : Bn K u a6 _ vb vw one q1 J4 := ⟨hb, hw, hone, hu', k6, odds _ (Same.refl _)⟩
    clear hb hw hone hu' k6 odds
    refine rd_lam ⟨hT', fun Ha na hTa Q' => ?_⟩
    repeat walk_at "rt"
    replace bn := bn.upN na
    obtain ⟨b1, b2, b3, _⟩ := bad_facts T bn.bad
    refine ⟨_, _, .inl rfl, .inr (.inl ⟨b1, b2, fun Hb eb => told_num (bad_st (Up.up (R := RBad K) eb bn.bad)) (told_E fun pb Hc ec hpb => ?_)⟩)⟩
    repeat walk_at "rt"
    refine ⟨_, _, rfl, pb, rfl, hpb, b3.up (eb.trans ec), fun Hd ed => ?_⟩
    have g1 := eb.trans (ec.trans ed)
    replace bn := bn.upN (LamX.ExtN.of g1)
    replace x2' := x2'.trans (na.trans (LamX.ExtN.of g1))
    replace hT' := LamX.Tabs.ext hTa g1
    clear na hTa eb ec ed g1 hpb b1 b2 b3
    repeat walk_at "rt"
    refine rd_lam ⟨hT', fun Ha na hTa Q' => ?_⟩
    repeat walk_at "rt"
    replace bn := bn.upN na
    obtain ⟨b1, b2, b3, _⟩ := bad_facts T bn.bad
    refine ⟨_, .int 1, .inr ⟨rfl, rfl⟩, .inr (.inl ⟨b1, b2, fun Hb eb => told_num (bad_st (Up.up (R := RBad K) eb bn.bad)) (told_E fun pb Hc ec hpb => ?_)⟩)⟩
    repeat walk_at "rt"
    refine ⟨_, _, rfl, pb, rfl, hpb, b3.up (eb.trans ec), fun Hd ed => ?_⟩
    have g1 := eb.trans (ec.trans ed)
    replace bn := bn.upN (LamX.ExtN.of g1)
    replace x2' := x2'.trans (na.trans (LamX.ExtN.of g1))
    replace hT' := LamX.Tabs.ext hTa g1
    clear na hTa eb ec ed g1 hpb b1 b2 b3
    repeat walk_at "rt"
    refine rd_lam ⟨hT', fun Ha na hTa Q' => ?_⟩
    repeat walk_at "rt"
    replace bn := bn.upN na
    obtain ⟨b2, b3, b4⟩ := wrs_facts T bn.wrs
    refine ⟨_, _, .inl rfl, .inr (.inr ⟨3, rfl, by decide, b2, fun Hb eb => told_num (wrs_st (Up.up (R := RWrs K) eb bn.wrs)) (told_E fun pb Hc ec hpb => ?_)⟩)⟩
    repeat walk_at "rt"
    refine ⟨_, _, rfl, pb, rfl, hpb, b3.up (eb.trans ec), fun Hd ed => ?_⟩
    have g1 := eb.trans (ec.trans ed)
    replace bn := bn.upN (LamX.ExtN.of g1)
    replace x2' := x2'.trans (na.trans (LamX.ExtN.of g1))
    replace hT' := LamX.Tabs.ext hTa g1
    clear na hTa eb ec ed g1 hpb b2 b3 b4
    repeat walk_at "rt"
    refine rd_lam ⟨hT', fun Ha na hTa Q' => ?_⟩
    repeat walk_at "rt"
    replace bn := bn.upN na
    obtain ⟨b2, b3, b4⟩ := wrs_facts T bn.wrs
    refine ⟨⟨_, _, bn.one⟩, ?_⟩
    repeat walk_at "rt"
    refine ⟨_, _, rfl, q1, bn.one, .inr ⟨b4, .inr ⟨rfl, ?_⟩⟩⟩
    replace x2' := x2'.trans na
    replace hT' := hTa
    clear na hTa b2 b3 b4
    repeat walk_at "rt"
    refine .inl (rd_neS ?_)
    rw [decide_eq_true rfl]
    repeat walk_at "rt"
    refine ⟨by show 1 ≤ sizeLine; decide, fun c1 hc1 => ?_⟩
    generalize he1 : upd _ _ _ = M1
    obtain ⟨g1, l1⟩ := same_upd he1 hc1
    repeat walk_at "rt"
    refine ⟨by show 3 ≤ sizeLine; decide, fun c2 hc2 => ?_⟩
    generalize he2 : upd _ _ _ = M2
    obtain ⟨g2, l2⟩ := same_upd he2 hc2
    repeat walk_at "rt"
    refine ⟨a6, c2, _, _, rfl, rfl, (g1.trans g2) _ _ bn.lst, l2, by show 12 ≤ sizeLine; decide, fun c3 hc3 => ?_⟩
    generalize he3 : upd _ _ _ = M3
    obtain ⟨g3, l3⟩ := same_upd he3 hc3
    have f3 := g1.trans (g2.trans g3)
    replace bn := bn.upN (LamX.ExtN.of f3)
    replace x2' := x2'.trans (LamX.ExtN.of f3)
    replace hT' := LamX.Tabs.ext hT' f3
    have l1' := (g2.trans g3) _ _ l1
    repeat walk_at "rt"
    have tl3 : RAll (RNo K) M3 [.int 0, .int 5, .ref c1] [(), (), ()] := .cons ⟨_, HasTy.int, T.K_int_Ratio⟩ (.cons ⟨_, HasTy.int, T.K_int_Ratio⟩ (.cons ⟨_, ty_tup l1', T.K_tuple_Ratio⟩ .nil))
    have nos := (rall_mapB (S := RNo K) (fun _ _ h => h.nr) bn.odds).append tl3
    refine ⟨_, _, rfl, u, Unit, RNo K, inferInstance, _, rfl, bn.urn, RL.at l3 nos (by show 12 ≤ sizeLine; decide), by decide, by decide, fun _ vn M4 _ g4 hvn => ?_⟩
    repeat walk_at "rt"
    refine ⟨_, rfl, .inr ⟨hvn, ?_⟩⟩
    repeat walk_at "rt"
    exact k _ (x2'.trans (LamX.ExtN.of g4)) (LamX.Tabs.ext hT' g4)
end
end LW
end
section
set_option Elab.async false
set_option linter.all false
set_option maxRecDepth 100000
set_option maxHeartbeats 4000000
set_option pp.maxSteps 700
set_option exponentiation.threshold 20000
namespace LW
open PySem PySem.Spec PyProof.Rows L2 Wo
local macro_rules | `(tactic| walk_at "lf") => `(tactic| first | assumption | (refine Up.up (by assumption) ?_; walk_at "lf") | (refine RAll.up (by assumption) ?_; walk_at "lf") | (refine Ob2.up (by assumption) ?_; walk_at "lf"))
local macro_rules | `(tactic| walk_at "side") => `(tactic| first | (unfold CMul; omega) | (unfold CDiv; omega) | (unfold CDivN; omega) | (unfold CPow; omega) | (show (0 : Int) < _; omega) | decide)
local macro_rules | `(tactic| walk_at "rd1") => `(tactic| first
  | ((with_reducible refine rd_var (v := ?v) ?h ?_); (case h => rfl))
  | with_reducible refine rd_c ?_
  | with_reducible refine rd_op ?_
  | with_reducible refine rd_I0 ?_
  | with_reducible refine rd_I ?_ ?_
  | with_reducible refine rd_U ?_
  | with_reducible refine rd_eqI ?_
  | with_reducible refine rd_neI ?_
  | with_reducible refine rd_eqS ?_
  | with_reducible refine rd_neS ?_
  | with_reducible refine rd_un ?_
  | with_reducible refine rd_test ?_
  | with_reducible refine rd_tB ?_
  | with_reducible refine rd_exB ?_
  | with_reducible refine rd_cons ?_
  | with_reducible refine rd_nil ?_
  | with_reducible refine rd_call ?_
  | with_reducible refine rd_cb ?_
  | with_reducible refine rd_seq ?_
  | with_reducible refine rd_asg ?_
  | with_reducible refine rd_gname ?_
  | with_reducible refine rd_ret ?_
  | with_reducible refine rd_ifS ?_
  | with_reducible refine rd_next ?_
  | with_reducible refine rd_drop ?_
  | with_reducible refine rd_if ?_
  | with_reducible refine rd_not ?_
  | with_reducible refine rd_and ?_
  | with_reducible refine rd_or ?_
  | with_reducible refine rd_andV ?_
  | with_reducible refine rd_orV ?_
  | with_reducible refine rd_notV ?_
  | with_reducible refine rd_chain ?_
  | with_reducible refine rd_slot ?_
  | with_reducible refine rd_sst ?_
  | with_reducible refine rd_par ?_
  | with_reducible refine rd_ex2 ?_
  | with_reducible refine rd_gcd ?_
  | with_reducible refine rd_prop ?_
  | with_reducible refine rd_sub ?_
  | with_reducible refine rd_lcm ?_ ?_
  | with_reducible refine rd_forL ?_
  | with_reducible refine rd_forT ?_
  | with_reducible refine rd_forR1 ?_
  | with_reducible refine rd_forZ ?_
  | with_reducible refine rd_lcL ?_
  | with_reducible refine rd_lcT ?_
  | with_reducible refine rd_lcR1 ?_
  | with_reducible refine rd_lcR2 ?_
  | with_reducible refine rd_lcZ ?_
  | with_reducible refine rd_lc2TT ?_
  | with_reducible refine rd_abs ?_
  | with_reducible refine rd_int ?_
  | with_reducible refine rd_intB ?_
  | with_reducible refine rd_max2 ?_
  | with_reducible refine rd_min2 ?_
  | with_reducible refine rd_tup ?_
  | with_reducible refine rd_lst ?_
  | with_reducible refine ite_T ?_
  | with_reducible refine ite_n ?_
  | with_reducible refine ite_y ?_
  | with_reducible refine ite_F ?_
  | with_reducible refine rd_retN ?_)
local macro_rules | `(tactic| walk_at "rd") => `(tactic| repeat walk_at "rd1")
local macro_rules | `(tactic| walk_at "sd") => `(tactic| first | exact Or.inl ⟨by decide, by decide⟩ | exact Or.inr ⟨by decide, by decide⟩ | (show (0 : Int) < _; decide +kernel) | exact ⟨by decide, by decide, by decide +kernel⟩ | exact ⟨by decide, by decide +kernel⟩)
section
variable {P : Program} {w : World} {K : PySem.W.Frag} {mg : Str → Option Value} {base : Heap}
set_option hygiene false in
local macro_rules | `(tactic| walk_at "rt") => `(tactic| first
  | walk_at "rd1"
  | with_reducible refine rd_exI ?_
  | with_reducible refine rd_bm ?_
  | with_reducible refine rd_negW ?_
  | with_reducible refine rd_callW ?_
  | with_reducible refine rd_methW ?_)
/-- Ratio(t, b) -/
theorem rk_two {t b : Int} {vs : List V} {z : V} {H : Hp} {Q : VK} {E : XK} (hv : vs = [.int t, z] ∨ (vs = [.int t] ∧ z = .int 1)) (hz : z = .int b) (hb : b ≠ 0) (h1 : inW t) (h2 : inW b) (k : ∀ v H', Same H H' → RQ (gA "Ratio" K) H' v (Rat.divInt t b) → Q v H') : sp_Ratio K vs H Q E :=
  ⟨_, z, hv, .inl ⟨_, .inr ⟨t, b, rfl, hz, hb, h1, h2, rfl⟩, k⟩⟩
theorem str_is {H : Hp} {Q : VK} {x : V} {q : Rat} {t : Int} {b : Nat} {s : Str} (h : RQ (gA "Ratio" K) H x q) (ht : q.num = t) (hb : q.den = b) (h1 : t.natAbs < 10 ^ 60) (h2 : b < 10 ^ 60) (hs : tx (line t b) = s) (k : Q (.str s) H) :
    ∃ x' u v, [x] = [x'] ∧ Ob2 (gA "Ratio" K) H x' u v ∧ sp_Ratio___str__ K [x'] H (fun z H' => ∃ y, z = .str y ∧ Q z H') E0 := by
  subst ht hb hs
  exact ⟨x, _, _, rfl, h, str_of h ⟨h1, h2⟩ ⟨_, rfl, k⟩⟩
def sp_law (K : PySem.W.Frag) : Sp := sp1 fun x H Q _ => ∃ ns : List Int, RL K RI H x ns ∧ LamX.Tabs (TbK K ts) H ∧ ∀ H', Q (.bl true) H'
abbrev n_law : List Str := ["_law_script", "_law_turn", "_law_told"]
theorem sc_law : FnScope n_law ["_law_script"] (defScope s_law) := ⟨rfl, rfl, rfl, by decide +kernel, rfl, by decide +kernel, by decide +kernel⟩
theorem ok_law (T : Tx P K mg) [B : Tbs K mg base ts] {fd : FuncData} (F : FunD K "law" "law" (defArgs s_law) (defBody s_law) (defScope s_law) [] [] (gA "law" K) fd) : FnOk P w K mg base (CXW P w) 19 (gA "law" K) fd ["_law_script"] (sp_law K) := by
  refine FunD.ok (k := 18) F sc_law (fun vs H Q E h => ?_) (fun cdv A outer s H vs Q E hr h => ?_)
  · obtain ⟨v0, rfl, _⟩ := h
    rfl
  obtain ⟨v0, rfl, h⟩ := h
  refine ⟨_, pss_cons (ps_for (passes_of rfl) rfl (pi_range1 rfl T.N_range (pa_cons (pe_callB (bi_max2 rfl) (by rfl) T.N_max (by decide +kernel) (pa_cons pe_int (pa_cons (pe_callB (bi_min2 rfl) (by rfl) T.N_min (by decide +kernel) (pa_cons pe_int (pa_cons (pe_callB (kLen K) (by rfl) T.N_len (by decide +kernel) (pa_cons (pv 0) pa_nil)) pa_nil))) pa_nil))) pa_nil)) (pg_name (i := 1) sc_law.nd rfl (by first | exact Or.inl rfl | exact Or.inr rfl))
        (pss_one (ps_if (pt_not (pt_val (pc (cal_w_right T (B := B)) hr (pa_cons (pc (cal_urn T) hr (pa_cons (pv 0) (pa_cons (pv 1) pa_nil))) pa_nil))))
        (pss_one (ps_ret pe_bl))
        (pss_nil))))
      (pss_cons (ps_set (i := 2) sc_law.nd rfl (by first | exact Or.inl rfl | exact Or.inr rfl) (pe_lst (pa_cons (pe_callTy (call_strOwn (cal_Ratio___str__ T) T.O_Ratio___str__ (hr.mono (by decide))) (by rfl) T.N_str (by decide +kernel) (pa_cons (pmW (ctor_Ratio T) hr takesE (pa_cons pe_int (pa_cons (pe_un un_neg pe_int) pa_nil))) pa_nil)) (pa_cons (pe_callTy (call_strOwn (cal_Ratio___str__ T) T.O_Ratio___str__ (hr.mono (by decide))) (by rfl) T.N_str (by decide +kernel) (pa_cons (pmW (ctor_Ratio T) hr takesE (pa_cons pe_int (pa_cons (pe_un un_neg pe_int) pa_nil))) pa_nil)) (pa_cons (pe_callTy (call_strOwn (cal_Ratio___str__ T) T.O_Ratio___str__ (hr.mono (by decide))) (by rfl) T.N_str (by decide +kernel) (pa_cons (pmW (ctor_Ratio T) hr takesE (pa_cons (pe_op op_sub (pe_op op_pow pe_int pe_int) pe_int) (pa_cons pe_int pa_nil))) pa_nil)) (pa_cons (pe_callTy (call_strOwn (cal_Ratio___str__ T) T.O_Ratio___str__ (hr.mono (by decide))) (by rfl) T.N_str (by decide +kernel) (pa_cons (pmW (ctor_Ratio T) hr takesE (pa_cons (pe_un un_neg pe_int) (pa_cons pe_int pa_nil))) pa_nil)) (pa_cons (pe_callTy (call_strOwn (cal_Ratio___str__ T) T.O_Ratio___str__ (hr.mono (by decide))) (by rfl) T.N_str (by decide +kernel) (pa_cons (pe_negW (cal_Ratio___neg__ T) T.O_Ratio___neg__ hr takesE (pmW (ctor_Ratio T) hr takesE (pa_cons pe_int pa_nil))) pa_nil)) pa_nil)))))))
      (pss_one (ps_ret (pe_and (pe_cmpR (eqX P w K mg base hr) (pv 2) (pe_lst (pa_cons pe_str (pa_cons pe_str (pa_cons (pe_op op_mulS pe_str pe_int) (pa_cons pe_str (pa_cons pe_str pa_nil)))))) (nomark _)) (pe_and (pe_cmpR (neO (cal_Ratio___eq__ T) T.O_Ratio___eq__ T.Q_Ratio___ne__ T.C_Ratio.si.cm (hr.mono (by decide))) (pmW (ctor_Ratio T) hr takesE (pa_cons pe_int pa_nil)) pe_int (nomark _)) (pe_and (pe_cmpR (eqX P w K mg base hr) (pmW (ctor_Ratio T) hr takesE (pa_cons pe_int (pa_cons pe_int pa_nil))) (pmW (ctor_Ratio T) hr takesE (pa_cons pe_int (pa_cons pe_int pa_nil))) (nomark _)) (pe_one (pe_notOwn (cal_Ratio___bool__ T) T.O_Ratio___bool__ (hr.mono (by decide)) (pmW (ctor_Ratio T) hr takesE (pa_cons pe_int pa_nil)))))))))), ?_⟩
  obtain ⟨ns, hns, hT, k⟩ := h
  repeat walk_at "rt"
  refine rd_lenL hns ?_
  repeat walk_at "rt"
  refine forRN (by omega) (by omega) (forN (fun i σ' H' => LamX.ExtN H H' ∧ LamX.Tabs (TbK K ts) H' ∧ ∃ x1, σ' = [some v0, x1, none]) ⟨LamX.ExtN.refl _, hT, none, rfl⟩ ?_ ?_)
  · rintro i σ' H' hi ⟨e, hT', x1, rfl⟩
    repeat walk_at "rt"
    refine ⟨_, _, rfl, ns, i, upN e hns, rfl, fun u H2 e3 hu => ?_⟩
    repeat walk_at "rt"
    refine ⟨_, rfl, u, rfl, hu, LamX.Tabs.ext hT' e3, fun H3 n3 hT3 => ?_⟩
    repeat walk_at "rt"
    exact ⟨e.trans ((LamX.ExtN.of e3).trans n3), hT3, _, rfl⟩
  rintro σ' H' ⟨e, hT', x1, rfl⟩
  clear e hT hns hT'
  repeat walk_at "rt"
  refine rk_two (.inl rfl) rfl (by decide) (by decide) (by decide) fun v1 H1 e1 h1 => ?_
  refine str_is (s := "-3/2") (t := -3) (b := 2) h1 (by decide +kernel) (by decide +kernel) (by decide +kernel) (by decide +kernel) (by decide +kernel) ?_
  repeat walk_at "rt"
  refine rk_two (.inl rfl) rfl (by decide) (by decide) (by decide) fun v2 H2 e2 h2 => ?_
  refine str_is (s := "0") (t := 0) (b := 1) h2 (by decide +kernel) (by decide +kernel) (by decide +kernel) (by decide +kernel) (by decide +kernel) ?_
  repeat walk_at "rt"
  rotate_left
  · exact pow60
  refine rk_two (.inl rfl) rfl (by decide) (by decide +kernel) (by decide) fun v3 H3 e3 h3 => ?_
  refine str_is (s := "333333333333333333333333333333333333333333333333333333333333") (t := 333333333333333333333333333333333333333333333333333333333333) (b := 1) h3 (by decide +kernel) (by decide +kernel) (by decide +kernel) (by decide +kernel) (by decide +kernel) ?_
  repeat walk_at "rt"
  refine rk_two (.inl rfl) rfl (by decide) (by decide) (by decide) fun v4 H4 e4 h4 => ?_
  refine str_is (s := "-1") (t := -1) (b := 1) h4 (by decide +kernel) (by decide +kernel) (by decide +kernel) (by decide +kernel) (by decide +kernel) ?_
  repeat walk_at "rt"
  refine rk_two (.inr ⟨rfl, rfl⟩) rfl (by decide) (by decide) (by decide) fun v5 H5 e5 h5 => ?_
  repeat walk_at "rt"
  refine ⟨⟨_, _, h5⟩, _, rfl, _, h5, fun v6 H6 e6 h6 => ?_⟩
  refine str_is (s := "-7") (t := -7) (b := 1) h6 (by decide +kernel) (by decide +kernel) (by decide +kernel) (by decide +kernel) (by decide +kernel) ?_
  repeat walk_at "rt"
  refine ⟨by show 5 ≤ sizeLine; decide, fun p7 hp7 => ?_⟩
  generalize he7 : upd _ _ _ = H7
  obtain ⟨e7, k7⟩ := same_upd he7 hp7
  clear h1 h2 h3 h4 h5 h6 e1 e2 e3 e4 e5 e6 he7 hp7 e7
  repeat walk_at "rt"
  refine ⟨[51], 60, congrArg V.str (by decide +kernel), rfl, by decide, by decide, ?_⟩
  repeat walk_at "rt"
  rw [show tx (List.replicate 60 [51]).flatten = ("333333333333333333333333333333333333333333333333333333333333" : Str) by decide +kernel]
  refine ⟨by show 5 ≤ sizeLine; decide, fun p8 hp8 => ?_⟩
  generalize he8 : upd _ _ _ = H8
  obtain ⟨e8, k8⟩ := same_upd he8 hp8
  refine rd_eqX (ec_lst (n := 17) ei_str) (RL.at (e8 _ _ k7) (RAll.strs (ns := ["-3/2", "0", "333333333333333333333333333333333333333333333333333333333333", "-1", "-7"])) (by show 5 ≤ sizeLine; decide) : RL K RS H8 (.ref p7) ["-3/2", "0", "333333333333333333333333333333333333333333333333333333333333", "-1", "-7"]) (RL.at k8 (RAll.strs (ns := ["-3/2", "0", "333333333333333333333333333333333333333333333333333333333333", "-1", "-7"])) (by show 5 ≤ sizeLine; decide) : RL K RS H8 (.ref p8) ["-3/2", "0", "333333333333333333333333333333333333333333333333333333333333", "-1", "-7"]) fun H9 e9 => ?_
  rw [decide_eq_true rfl]
  clear k7 k8 he8 hp8 e8 e9
  repeat walk_at "rt"
  refine rk_two (.inr ⟨rfl, rfl⟩) rfl (by decide) (by decide) (by decide) fun v1 H1 e1 h1 => ?_
  repeat walk_at "rt"
  refine ⟨⟨_, _, h1⟩, .inl ⟨_, rfl⟩, _, _, rfl, _, h1, .inr ⟨⟨_, HasTy.int, T.K_int_Ratio⟩, false, rfl, ?_⟩⟩
  clear h1 e1
  repeat walk_at "rt"
  refine rk_two (.inl rfl) rfl (by decide) (by decide) (by decide) fun v2 H2 e2 h2 => ?_
  repeat walk_at "rt"
  refine rk_two (.inl rfl) rfl (by decide) (by decide) (by decide) fun v3 H3 e3 h3 => ?_
  refine rd_eqX (ec_rat (eqF T) T.O_Ratio___eq__ (by decide)) (Up.up e3 h2) h3 fun H4 e4 => ?_
  rw [decide_eq_true (show Rat.divInt 2 4 = Rat.divInt 1 2 by decide +kernel)]
  clear h2 h3 e2 e3 e4
  repeat walk_at "rt"
  refine rk_two (.inr ⟨rfl, rfl⟩) rfl (by decide) (by decide) (by decide) fun v5 H5 e5 h5 => ?_
  refine ⟨⟨_, _, h5⟩, _, rfl, _, h5, _, rfl, ?_⟩
  rw [show ((Rat.divInt 0 1).num != 0) = false by decide +kernel]
  exact k _
end
end LW
end
set_option Elab.async false
set_option linter.all false
set_option maxRecDepth 100000
set_option maxHeartbeats 0
namespace LW
open PySem PySem.Spec PyProof.Rows L2 Wo
/-- nothing is let out at all -/
theorem ok_cx0 {P : Program} {w : World} {K : PySem.W.Frag} {mg : Str → Option Value} {base : Heap} {k : Nat} {f : Addr} {fd : FuncData} {ps : List Str} {sp : Sp} (F : FnOk P w K mg base (CXW P w) k f fd ps sp) (h : ∀ vs H Q E, sp vs H Q E → sp vs H Q E0) :
    FnOk P w K mg base L2.CX0 k f fd ps sp := ⟨F.len, fun A outer s H args us vs Q E hr he hb hv hs => codeAny_mono (F.run A outer s H args us vs Q E0 hr he hb hv (h vs H Q E hs)) fun r s' z => by
  cases r with
  | ok fl => cases fl <;> exact z
  | error e =>
    obtain ⟨a, B, H', cls, d, _, _, _, _, _, _, _, h⟩ := (show CXW P w outer H s E0 e s' from z)
    exact h.elim⟩
theorem law_facts {P : Program} {w : World} {K : PySem.W.Frag} {h : Heap} {mg : Str → Option Value} {f : Addr} (hfile : ((P.main.file : Str) == ("/claim/cut.py" : Str)) = true) (htop : (P.main.scope.names.lookup ("super" : Str)).isSome = false) (X : K.In h) (G : h.Ns mainGlobals mg) (hfa : mg ("law" : Str) = some (.ref f)) (c : SaysY fs ds es K) :
    ∃ fd : FuncData, (∀ (s : Shared) (v : Value), BindsTo s fd ⟨[v], []⟩ [("_law_script", v)]) ∧ ∀ base : Heap, Tbs K mg base ts → FnOk P w K mg base L2.CX0 19 f fd ["_law_script"] (sp_law K) := by
  have T : Tx P K mg := tx_of hfile htop X G c
  have e := hfa.symm.trans T.G_law
  cases e
  obtain ⟨fd, F⟩ := T.D_law
  have b := FunD.bindsA (ps := ["_law_script"]) F fun _ _ _ _ _ _ us hl => match us, hl with | [_], _ => rfl
  exact ⟨fd, fun s v => b s [v] rfl, fun base B => ok_cx0 (ok_law T (B := B) F) fun vs H Q E h => h⟩
end LW
open PySem PySem.W PySem.Calls PyProof.Rows
theorem PySem.Challenge.cw_worthstead_k00_ratios_in_lowest_terms_holds : PySem.Challenge.rw_worthstead_k00_ratios_in_lowest_terms.Holds := by
  w_on; o_law
  refine HandSHeadRun.head_imp (r := OpenLaw.row PySem.Challenge.rw_worthstead_k00_ratios_in_lowest_terms) (q := LW.qv) (H := LW.hk) (ob := LW.ob) (M := 20000) (loose := LW.loose) (d := HandSHeadRun.topDef LW.R.prog 34) (kwd := []) LW.ob_eq LW.run
    (by kernel_rfl) (by kernel_rfl) (by kernel_rfl) (by rfl) (by first | assumption | decide +kernel) (by decide +kernel) ⟨rfl, rfl, rfl, rfl, rfl, by decide +kernel⟩ ?hw ?hc
  case hw => w_witness2
  case hc =>
    refine LamX.walk_ofTsE (l := PySem.Challenge.rw_worthstead_k00_ratios_in_lowest_terms) (n := 63) (k := 19) (x := "_law_script") rfl (by decide) (by kernel_rfl) ⟨rfl, by decide, by decide⟩ ?F (CX := fun _ => L2.CX0) (fun _ _ _ _ _ z => z)
    intro w mg fa h Y G hmg0
    obtain ⟨K, KX, c⟩ := Y
    have hmg : mg ("law" : PySem.Str) = some (.ref fa) := by
      have e : (HandSHeadRun.topDef LW.R.prog 34).name = ("law" : PySem.Str) := by kernel_rfl
      rw [← e]
      exact hmg0
    obtain ⟨fd, hb, hF⟩ := LW.law_facts (P := (PySem.Challenge.rw_worthstead_k00_ratios_in_lowest_terms).prog) (w := w) (by kernel_rfl) (by kernel_rfl) KX G hmg c.1
    exact ⟨K, KX, Wo.lawAt_tabs (sp := LW.sp_law K) KX c hb (fun H a ns hl hT hS => ⟨_, rfl, ns, ⟨a, _, rfl, hS, Wo.RAll.ints, by rw [List.length_map]; exact Nat.le_trans hl (by decide)⟩, hT, fun _ => rfl⟩) hF⟩
