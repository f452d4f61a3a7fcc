import PyProof.Rows.All
import Wide.All
import OpenK.AllK
import Wide.FinOn
import HandS.ForMost
import HandS.ForExc
import HandS.Slots
import HandS.SlotsOwn
import HandS.Star
import HandS.Wide
import HandS.Gcd
import HandS.IsInst
import HandS.FStr
import HandS.Flow
import HandS.ClsMeth
import HandS.TupAny
import HandS.Zip
import HandS.ExcSuper
import HandS.Head3
import HandS.HeadEnd
import HandS.HeadHook2
import HandS.OwnEq
import KE.KExcSuper
import KE.KSuper
import KE.KExcInit
import HandS.ExcInit
import HandS.TryMany
import PyProof.ExcBaseAll.IndexError
import PyProof.ExcBaseAll.ArithmeticError
import PyProof.ExcBaseAll.OverflowError
import PyProof.ExcBaseAll.ValueError
import HandS.ExcField
import HandS.ExcBuiltin
import KE.KOpsOwn
import HandS.CallRecv
import PyProof.InstNe
import PyProof.Conv_bool
import KE.KIntText
import KE.IntTextLaws
import KE.KCallOwn
import PyProof.Rows.Digits
import PyProof.StrBlock2
import PyProof.Rows.RegStrCode
import PyProof.Rows.StrBin
import HandS.Conv
import HandS.Lambda
import HandS.EndTab
import HandS.HeadWalk
import KE.KNestM
import HandS.TupMul
import PyProof.EnumMake
import PyProof.WalksEnum
import PyProof.WalksMore
import HandS.AnyAll
import PyProof.GenCompT
import KE.KDictIter
import HandS.Nested
import PyProof.Rows.RuleB_mod
import HandS.TupSets
import HandS.SortRule
import HandS.MakeKwOnly
import PyProof.ExcBaseAll.LookupError
import HandS.Keys
import HandS.Dict
import HandS.Style
import HandS.Small
import KE.KDictDisplayH
import HandS.Set
import HandS.SetFor
import KE.KeyNested
import KE.KOwnIter
import HandS.IterVal
import KE.GoesNew
import KE.GoesEnum
import HandS.DictComp
import HandS.WordsDict
import HandS.TupLen
import KE.KIndexOf
import HandS.SortKw
import PyProof.Rows.SortShellAny
import HandS.SetBool
import HandS.FltList
import PyProof.Rows.StrMeet
import HandS.TupLe
import PyProof.Rows.TupSub
import PyProof.Rows.SeqItemCall
import HandS.Iter
import KE.KDictWalk
import KE.KDictZip
import KE.KTurns
import PyProof.ListNew
import HandS.OwnIter
import PyProof.ReprNest
import KE.KDictCopyH
import OpenK.KMeth
import PyProof.DictUpdate
import PyProof.DictDisplay
import KE.DatumOrd
import KE.DataMinMax
import HandS.DictEq
import KE.KEqDict
import HandS.Text
import PyProof.SliceList
import PySem.Challenge.RW_worthstead_k12_tables_told
set_option Elab.async false
set_option linter.all false
set_option maxRecDepth 100000
set_option maxHeartbeats 0
namespace NI
structure Tg (P : Prop) : Prop where
  p : P
abbrev Carry {P : Prop} (_ : P) : Prop := Tg P
theorem carry {P : Prop} {h : P} : Carry h := ⟨h⟩
theorem run {P : Prop} (h : Tg P) : P := h.p
end NI
section
namespace Wo
open PySem PySem.Spec PyProof.Rows L2
def sp0 (b : Hp → VK → XK → Prop) : Sp := fun vs H Q E => vs = [] ∧ b H Q E
def sp1 (b : V → Hp → VK → XK → Prop) : Sp := fun vs H Q E => ∃ x, vs = [x] ∧ b x H Q E
def sp2 (b : V → V → Hp → VK → XK → Prop) : Sp := fun vs H Q E => ∃ x y, vs = [x, y] ∧ b x y H Q E
def sp3 (b : V → V → V → Hp → VK → XK → Prop) : Sp := fun vs H Q E => ∃ x y z, vs = [x, y, z] ∧ b x y z H Q E
def sp4 (b : V → V → V → V → Hp → VK → XK → Prop) : Sp := fun vs H Q E => ∃ x y z u, vs = [x, y, z, u] ∧ b x y z u H Q E
abbrev CXW (P : Program) (w : World) : CXT := L2.CX P w
theorem passF {X : Cx} : Passes (CXW X.prog X.w) X E0 := fun _ _ _ _ _ _ _ h => by
  obtain ⟨a, B, H', cls, d, _, _, _, _, _, _, _, h⟩ := h
  exact h.elim
theorem passF' {X : Cx} : ∀ (H : Hp) (s : Shared) (e : Value) (s' : Shared), CXW X.prog X.w X.stack H s E0 e s' → False := fun _ _ _ _ h => by
  obtain ⟨a, B, H', cls, d, _, _, _, _, _, _, _, h⟩ := h
  exact h.elim
def Cal (P : Program) (w : World) (K : PySem.W.Frag) (mg : Str → Option Value) (base : Heap) (k : Nat) (x : Str) (sp : Sp) : Prop :=
  ∃ f, mg x = some (.ref f) ∧ PySem.W.keepIn K (.ref f) = true ∧ FnR P w K mg base (CXW P w) k f sp
def tCallR (sp : Sp) (E : XK) (t : TA) : TE := fun σ H Q => t σ H fun vs H1 => sp vs H1 Q E
section
variable {X : Cx} {k j : Nat} {f : Addr} {sp : Sp} {E : XK} {x : Str} {p pos : Pos} {e : Expr} {es : List Expr} {t : TA}
theorem run_R {CX : CXT} {pins : List (Addr × Obj)} {σ : L2.St} {H : Hp} {s : Shared} {Q : VK} {us : List Value} {vs : List V} (F : FnR X.prog X.w X.K X.mg X.base CX k f sp) (hr : Room k X.A) (hx : Passes CX X E)
    (I : Inv X pins σ H s) (r : Vals vs us) (h : sp vs H Q E) : wpAny (model X.prog X.w) X.A (call (.ref f) us) (EP X pins σ Q) X.xe s :=
  wpAny_call (run_fnR F hr hx I r h)
theorem pe_callR (F : FnR X.prog X.w X.K X.mg X.base (CXW X.prog X.w) k f sp) (hr : Room k X.A) (hg : Gl X x) (hm : X.mg x = some (.ref f)) (hk : PySem.W.keepIn X.K (.ref f) = true) (hx : Passes (CXW X.prog X.w) X E)
    (ha : PA X (e :: es) t) (hdb : (x == ("__debug__" : Str)) = false) (he : starEach (e :: es) X.env = (false, eval e X.env) :: starEach es X.env) (hpl : (backTo pos (starEach es X.env)).any (·.1) = false) :
    PE X (.Call (.Name x p) (e :: es) [] pos) (tCallR sp E t) := @NI.run _ (by exact NI.carry : NI.Carry (by
  refine ⟨fun pins s σ H Q I h => ?_⟩
  refine wpAny_Call_Name_kw (ld_glob I hg hm ?_ hdb)
  refine PySem.W.callWith_K (h₀ := X.base) I.ok.mod.kin hk (thn (ha.run pos pins s σ H _ I h) fun us s1 ⟨vs, H1, I1, r, q⟩ => ⟨I1.kIn, ?_⟩) he hpl
  exact run_R F hr hx I1 r q
))
theorem pe_callR0 (F : FnR X.prog X.w X.K X.mg X.base (CXW X.prog X.w) k f sp) (hr : Room k X.A) (hg : Gl X x) (hm : X.mg x = some (.ref f)) (hk : PySem.W.keepIn X.K (.ref f) = true) (hx : Passes (CXW X.prog X.w) X E)
    (hdb : (x == ("__debug__" : Str)) = false) : PE X (.Call (.Name x p) [] [] pos) (tCallR sp E tNil) := @NI.run _ (by exact NI.carry : NI.Carry (by
  refine ⟨fun pins s σ H Q I h => ?_⟩
  refine wpAny_Call_Name_kw (ld_glob I hg hm ?_ hdb)
  exact PySem.W.callWith_K0 I.kIn hk (run_R (us := []) F hr hx I .nil h)
))
theorem pc (c : Cal X.prog X.w X.K X.mg X.base k x sp) (hr : Room j X.A) (ha : PA X (e :: es) t) (hk : k ≤ j := by decide) (hg : Gl X x := by rfl) (hdb : (x == ("__debug__" : Str)) = false := by decide)
    (he : starEach (e :: es) X.env = (false, eval e X.env) :: starEach es X.env := by rfl) (hpl : (backTo pos (starEach es X.env)).any (·.1) = false := by rfl) : PE X (.Call (.Name x p) (e :: es) [] pos) (tCallR sp E0 t) := @NI.run _ (by exact NI.carry : NI.Carry (by
  obtain ⟨f, hm, kp, F⟩ := c
  exact pe_callR F (hr.mono hk) hg hm kp passF ha hdb he hpl
))
theorem pc0 (c : Cal X.prog X.w X.K X.mg X.base k x sp) (hr : Room j X.A) (hk : k ≤ j := by decide) (hg : Gl X x := by rfl) (hdb : (x == ("__debug__" : Str)) = false := by decide) : PE X (.Call (.Name x p) [] [] pos) (tCallR sp E0 tNil) := @NI.run _ (by exact NI.carry : NI.Carry (by
  obtain ⟨f, hm, kp, F⟩ := c
  exact pe_callR0 F (hr.mono hk) hg hm kp passF hdb
))
end
section
variable {P : Program} {w : World} {K : PySem.W.Frag} {mg : Str → Option Value} {base : Heap} {k : Nat} {x name qual : Str} {params : Arguments} {body : List Stmt} {scope : Scope} {f : Addr} {N ps : List Str} {sp : Sp}
theorem fnR_of (F : ∃ fd, FunD K name qual params body scope [] [] f fd) (S : FnScope N ps scope)
    (hbind : ∀ (kV doc pm : Value) (an : Option Addr) (cdv ct : Value) (us : List Value), us.length = ps.length → bindArgs (PySem.W.fnOf name qual params body scope .none kV doc pm an cdv ct) ⟨us, []⟩ = pure (ps.zip us))
    (len : ∀ vs H Q E, sp vs H Q E → vs.length = ps.length)
    (hbody : ∀ (cdv : Value) (A : Around) (outer : List Env) (s : Shared) (H : Hp) (vs : List V) (Q : VK) (E : XK), Room k (A.deeper (envOfC qual scope s.heap.objs.size f cdv)) → sp vs H Q E →
      ∃ t, PSs (cxOf (CXW P w) P w K mg base N qual scope f cdv A outer s H E) body t ∧ t { nx := fun _ H' => Q .non H', rt := Q } (start N vs) H) : FnR P w K mg base (CXW P w) (k + 1) f sp := @NI.run _ (by exact NI.carry : NI.Carry (by
  obtain ⟨fd, F⟩ := F
  have G := FunD.ok (P := P) (w := w) (mg := mg) (base := base) (CX := CXW P w) F S len hbody
  have b := F.bindsN hbind
  refine (G.raw b .nil).imp fun vs H Q E h => ?_
  rw [List.append_nil]
  exact h
))
theorem cal_of (g : mg x = some (.ref f)) (F : ∃ fd, FunD K name qual params body scope [] [] f fd) (S : FnScope N ps scope)
    (hbind : ∀ (kV doc pm : Value) (an : Option Addr) (cdv ct : Value) (us : List Value), us.length = ps.length → bindArgs (PySem.W.fnOf name qual params body scope .none kV doc pm an cdv ct) ⟨us, []⟩ = pure (ps.zip us))
    (len : ∀ vs H Q E, sp vs H Q E → vs.length = ps.length)
    (hbody : ∀ (cdv : Value) (A : Around) (outer : List Env) (s : Shared) (H : Hp) (vs : List V) (Q : VK) (E : XK), Room k (A.deeper (envOfC qual scope s.heap.objs.size f cdv)) → sp vs H Q E →
      ∃ t, PSs (cxOf (CXW P w) P w K mg base N qual scope f cdv A outer s H E) body t ∧ t { nx := fun _ H' => Q .non H', rt := Q } (start N vs) H) : Cal P w K mg base (k + 1) x sp := @NI.run _ (by exact NI.carry : NI.Carry (by
  have kp : PySem.W.keepIn K (.ref f) = true := by
    obtain ⟨fd, F⟩ := F
    exact F.kp
  exact ⟨f, g, kp, fnR_of F S hbind len hbody⟩
))
end
abbrev Pa := PySem.W.Frag → Addr
def gA (x : Str) : Pa := fun K => He.ga K x
def mA (x m : Str) : Pa := fun K => He.ma K (He.ga K x) m
def rA (T : String) (x m : Str) : Pa := fun K => match PySem.W.recIn K (mA x m K) T with
  | some (.ref g :: _) => g
  | _ => 0
structure DefX where
  ad : Pa
  name : Str
  qual : Str
  params : Arguments
  body : List Stmt
  scope : Scope
  dfl : List He.Dv := []
def fnX (K : PySem.W.Frag) (a : Addr) : He.FnW := match K.lookup a with
  | some ⟨_, _, .func fd, _⟩ => some (fd.name, fd.qualname, fd.params, fd.body, fd.scope, fd.globals, fd.closure, fd.builtins)
  | _ => none
def DefX.val (d : DefX) : He.FnW := some (d.name, d.qual, d.params, .stmts d.body, d.scope, mainGlobals, [], builtinsNs)
def DefX.dvs (K : PySem.W.Frag) (d : DefX) : List V := d.dfl.map (He.Dv.v K)
def DefX.ok (K : PySem.W.Frag) (d : DefX) : Bool := PySem.W.keepIn K (.ref (d.ad K)) && (match K.lookup (d.ad K) with
  | some ⟨_, _, .func fd, _⟩ => PySem.W.codeIn K fd.code d.qual && He.dflB K fd.defaults (d.dvs K)
  | _ => false)
theorem DefX.funD {K : PySem.W.Frag} {d : DefX} (e : fnX K (d.ad K) = d.val) (c : d.ok K = true) : ∃ fd, FunD K d.name d.qual d.params d.body d.scope (d.dvs K) [] (d.ad K) fd := @NI.run _ (by exact NI.carry : NI.Carry (by
  obtain ⟨kp, c2⟩ := He.ba c
  unfold fnX at e
  cases q : K.lookup (d.ad K) with
  | none =>
    rw [q] at c2
    cases c2
  | some o =>
    obtain ⟨oc, od, dt, osl⟩ := o
    rw [q] at c2 e
    cases dt with
    | func fd =>
      obtain ⟨n1, n2, n3, n4, n5, n6, n7, n8, n9, n10, n11, n12, n13, n14, n15⟩ := fd
      have e2 : (some (n1, n2, n3, n4, n5, n6, n7, n15) : He.FnW) = some (d.name, d.qual, d.params, .stmts d.body, d.scope, mainGlobals, [], builtinsNs) := e
      simp only [Option.some.injEq, Prod.mk.injEq] at e2
      obtain ⟨h1, h2, h3, h4, h5, h6, h7, h8⟩ := e2
      subst h1 h2 h3 h4 h5 h6 h7 h8
      have c3 : (PySem.W.codeIn K n13 d.qual && He.dflB K n8 (d.dvs K)) = true := c2
      obtain ⟨k1, k2⟩ := He.ba c3
      exact ⟨_, ⟨oc, od, n8, n9, n10, n11, n12, n13, n14, osl, rfl, q, k1, He.dflB_ok k2, .inl rfl⟩, kp⟩
    | _ => cases c2
))
abbrev AlX : Type := Bool × List He.FnW
def obsX (fs : List (PySem.W.Frag → Bool)) (ds : List DefX) (K : PySem.W.Frag) : AlX := ((fs.all fun f => f K) && ds.all fun d => d.ok K, ds.map fun d => fnX K (d.ad K))
def valX (ds : List DefX) : AlX := (true, ds.map DefX.val)
def SaysX (fs : List (PySem.W.Frag → Bool)) (ds : List DefX) (K : PySem.W.Frag) : Prop := obsX fs ds K = valX ds
section
variable {fs : List (PySem.W.Frag → Bool)} {ds : List DefX} {K : PySem.W.Frag}
theorem SaysX.fact (c : SaysX fs ds K) (i : Nat) {f : PySem.W.Frag → Bool} (h : fs[i]? = some f := by rfl) : f K = true := @NI.run _ (by exact NI.carry : NI.Carry (by
  have c1 := (He.ba (show ((fs.all fun f => f K) && ds.all fun d => d.ok K) = true from congrArg (fun z : AlX => z.1) c)).1
  exact List.all_eq_true.mp c1 f (List.mem_of_getElem? h)
))
theorem SaysX.def_ (c : SaysX fs ds K) (i : Nat) {d : DefX} (h : ds[i]? = some d := by rfl) : ∃ fd, FunD K d.name d.qual d.params d.body d.scope (d.dvs K) [] (d.ad K) fd := @NI.run _ (by exact NI.carry : NI.Carry (by
  have c2 := (He.ba (show ((fs.all fun f => f K) && ds.all fun d => d.ok K) = true from congrArg (fun z : AlX => z.1) c)).2
  have e : ds.map (fun d => fnX K (d.ad K)) = ds.map DefX.val := congrArg (fun z : AlX => z.2) c
  have e2 : (ds.map fun d => fnX K (d.ad K))[i]? = (ds.map DefX.val)[i]? := by rw [e]
  rw [List.getElem?_map, List.getElem?_map, h] at e2
  exact DefX.funD (Option.some.inj e2) (List.all_eq_true.mp c2 d (List.mem_of_getElem? h))
))
end
section
open PySem.W
def fGlo (x : Str) (K : Frag) : Bool := He.eqO (nsIn K mainGlobals x) (some (some (.ref (He.ga K x))))
def fFree (x : Str) (K : Frag) : Bool := He.eqO (nsIn K mainGlobals x) (some none)
def fBlt (x : Str) (b : String) (K : Frag) : Bool := He.eqO (nsIn K mainGlobals x) (some (some (.builtin b)))
def fInt (x : Str) (i : Int) (K : Frag) : Bool := match nsIn K mainGlobals x with
  | some (some (.int j _)) => decide (j = i)
  | _ => false
def fStr (x z : Str) (K : Frag) : Bool := match nsIn K mainGlobals x with
  | some (some (.str y _)) => decide (y = z)
  | _ => false
variable {K : Frag} {h : Heap} {mg : Str → Option Value}
theorem fGlo_ok (X : K.In h) (G : h.Ns mainGlobals mg) {x : Str} (c : fGlo x K = true) : mg x = some (.ref (gA x K)) := mg_of X G (He.eqO_ok c)
theorem fFree_ok (X : K.In h) (G : h.Ns mainGlobals mg) {x : Str} (c : fFree x K = true) : mg x = none := mg_none_of X G (He.eqO_ok c)
theorem fBlt_ok (X : K.In h) (G : h.Ns mainGlobals mg) {x : Str} {b : String} (c : fBlt x b K = true) : mg x = some (.builtin b) := mg_of X G (He.eqO_ok c)
theorem fInt_ok (X : K.In h) (G : h.Ns mainGlobals mg) {x : Str} {i : Int} (c : fInt x i K = true) : ∃ t, mg x = some (.int i t) := He.int_ok X G (x := x) (i := i) c
structure Sl2 (K : Frag) (C : Addr) (f0 f1 : Str) (fi : Addr) : Prop where
  cl : SlX.SCls K C
  s0 : ∃ p, SlX.Slot1 K C f0 p 0
  s1 : ∃ p, SlX.Slot1 K C f1 p 1
  si : SlX.SIsi K C
  make : Mk K C fi
  cs : isClsIn K C = true
  ty : typeIn K (.ref C) = some (.type "type")
def bSlot (K : Frag) (C : Addr) (f : Str) (i : Nat) : Bool := match findIn K (.ref C) f with
  | some (some (.ref p)) => decide (specialIn K (.ref p) "__get__" = some (some (.builtin "member_descriptor.__get__"))) && (decide (takesIn K (.ref p) = some true) && (decide (typeIn K (.ref p) = some (.type "member_descriptor")) && (decide (slotIn K p C = some i) && decide (i < 1000))))
  | _ => false
theorem bSlot_ok {C : Addr} {f : Str} {i : Nat} (c : bSlot K C f i = true) : ∃ p, SlX.Slot1 K C f p i := @NI.run _ (by exact NI.carry : NI.Carry (by
  unfold bSlot at c
  split at c
  · rename_i p e
    obtain ⟨c1, c⟩ := He.ba c
    obtain ⟨c2, c⟩ := He.ba c
    obtain ⟨c3, c⟩ := He.ba c
    obtain ⟨c4, c5⟩ := He.ba c
    exact ⟨p, e, of_decide_eq_true c1, of_decide_eq_true c2, of_decide_eq_true c3, of_decide_eq_true c4, of_decide_eq_true c5⟩
  · cases c
))
def bMk (K : Frag) (C fi : Addr) : Bool := makesIn K C && (He.eqO (findIn K (.ref C) "__init__") (some (some (.ref fi))) && (isFn K (.ref fi) && keepIn K (.ref C)))
theorem bMk_ok {C fi : Addr} (c : bMk K C fi = true) : Mk K C fi := @NI.run _ (by exact NI.carry : NI.Carry (by
  obtain ⟨c1, c⟩ := He.ba c
  obtain ⟨c2, c⟩ := He.ba c
  obtain ⟨c3, c4⟩ := He.ba c
  exact ⟨c1, He.eqO_ok c2, c3, c4⟩
))
def fSl2 (x f0 f1 : Str) (K : Frag) : Bool :=
  plainGet K (gA x K) Str.empty && (isClsIn K (gA x K) && (plainOver K (gA x K) && (He.eqO (findIn K (.ref (gA x K)) "__setattr__") (some (some (.builtin "object.__setattr__"))) &&
  (bSlot K (gA x K) f0 0 && (bSlot K (gA x K) f1 1 && (bMk K (gA x K) (mA x "__init__" K) &&
  (He.eqO (findIn K (.ref (gA x K)) "__class__") (some (some (.builtin "object.__class__"))) && (He.eqO (specialIn K (.builtin "object.__class__") "__get__") (some (some (.builtin "getset_descriptor.__get__"))) &&
  (decide (takesIn K (.builtin "object.__class__") = some true) && (decide (mroIn K (gA x K) (.type "object") = some true) && decide (typeIn K (.ref (gA x K)) = some (.type "type"))))))))))))
theorem fSl2_ok {x f0 f1 : Str} (c : fSl2 x f0 f1 K = true) : Sl2 K (gA x K) f0 f1 (mA x "__init__" K) := @NI.run _ (by exact NI.carry : NI.Carry (by
  obtain ⟨c1, c⟩ := He.ba c
  obtain ⟨c2, c⟩ := He.ba c
  obtain ⟨c3, c⟩ := He.ba c
  obtain ⟨c4, c⟩ := He.ba c
  obtain ⟨c5, c⟩ := He.ba c
  obtain ⟨c6, c⟩ := He.ba c
  obtain ⟨c7, c⟩ := He.ba c
  obtain ⟨c8, c⟩ := He.ba c
  obtain ⟨c9, c⟩ := He.ba c
  obtain ⟨c10, c⟩ := He.ba c
  obtain ⟨c11, c12⟩ := He.ba c
  exact ⟨⟨c1, c2, c3, He.eqO_ok c4⟩, bSlot_ok c5, bSlot_ok c6, ⟨He.eqO_ok c8, He.eqO_ok c9, of_decide_eq_true c10, of_decide_eq_true c11⟩, bMk_ok c7, c2, of_decide_eq_true c12⟩
))
def fKit (t : Frag → Value) (x : Str) (b : Bool) (K : Frag) : Bool := decide (kitOne K (t K) (.ref (gA x K)) = some b)
theorem fKit_ok {t : Frag → Value} {x : Str} {b : Bool} (c : fKit t x b K = true) : kitOne K (t K) (.ref (gA x K)) = some b := of_decide_eq_true c
def fOwn (x m : Str) (K : Frag) : Bool := He.eqO (findIn K (.ref (gA x K)) m) (some (some (.ref (mA x m K)))) && (isFn K (.ref (mA x m K)) && (keepIn K (.ref (mA x m K)) && selfFirst K (gA x K)))
structure OwnM (K : Frag) (C : Addr) (m : Str) (f : Addr) : Prop where
  at_ : findIn K (.ref C) m = some (some (.ref f))
  fn : isFn K (.ref f) = true
  kp : keepIn K (.ref f) = true
  sf : selfFirst K C = true
theorem fOwn_ok {x m : Str} (c : fOwn x m K = true) : OwnM K (gA x K) m (mA x m K) := @NI.run _ (by exact NI.carry : NI.Carry (by
  obtain ⟨c1, c⟩ := He.ba c
  obtain ⟨c2, c⟩ := He.ba c
  obtain ⟨c3, c4⟩ := He.ba c
  exact ⟨He.eqO_ok c1, c2, c3, c4⟩
))
def fLack (x m : Str) (K : Frag) : Bool := He.eqO (findIn K (.ref (gA x K)) m) (some none)
theorem fLack_ok {x m : Str} (c : fLack x m K = true) : findIn K (.ref (gA x K)) m = some none := He.eqO_ok c
structure PropM (K : Frag) (C : Addr) (m : Str) (g : Addr) : Prop where
  ex : ∃ p, findIn K (.ref C) m = some (some (.ref p)) ∧ specialIn K (.ref p) "__get__" = some (some (.builtin "property.__get__")) ∧ takesIn K (.ref p) = some true ∧ ∃ rest, recIn K p "property" = some (.ref g :: rest)
def fProp (x m : Str) (K : Frag) : Bool := He.eqO (findIn K (.ref (gA x K)) m) (some (some (.ref (mA x m K)))) && (He.eqO (specialIn K (.ref (mA x m K)) "__get__") (some (some (.builtin "property.__get__"))) && (decide (takesIn K (.ref (mA x m K)) = some true) &&
  (match recIn K (mA x m K) "property" with
    | some (.ref g :: _) => decide (g = rA "property" x m K)
    | _ => false)))
theorem fProp_ok {x m : Str} (c : fProp x m K = true) : PropM K (gA x K) m (rA "property" x m K) := @NI.run _ (by exact NI.carry : NI.Carry (by
  obtain ⟨c1, c⟩ := He.ba c
  obtain ⟨c2, c⟩ := He.ba c
  obtain ⟨c3, c4⟩ := He.ba c
  refine ⟨_, He.eqO_ok c1, He.eqO_ok c2, of_decide_eq_true c3, ?_⟩
  split at c4
  · rename_i g rest e
    have eg : g = rA "property" x m K := of_decide_eq_true c4
    exact ⟨rest, by rw [e, eg]⟩
  · cases c4
))
end
end Wo
end
section
namespace Wo
open PySem PySem.Spec PyProof.Rows L2
abbrev Rl (α : Type) := Hp → V → α → Prop
class Up {α : Type} (R : Rl α) : Prop where
  up : ∀ {H H' : Hp} {v : V} {a : α}, Same H H' → R H v a → R H' v a
def RI : Rl Int := fun _ v i => v = .int i
def RB : Rl Bool := fun _ v b => v = .bl b
def RS : Rl Str := fun _ v z => v = .str z
def RV : Rl V := fun _ v u => v = u
instance : Up RI := ⟨fun _ h => h⟩
instance : Up RB := ⟨fun _ h => h⟩
instance : Up RS := ⟨fun _ h => h⟩
instance : Up RV := ⟨fun _ h => h⟩
theorem Same.seqT {K : PySem.W.Frag} {H H' : Hp} {a : Addr} {xs : List V} (e : Same H H') (h : SqT K H a xs) : SqT K H' a xs := @NI.run _ (by exact NI.carry : NI.Carry (by
  rcases h with (h | ⟨o, h⟩) | h
  · exact .inl (.inl (e _ _ h))
  · exact .inl (.inr ⟨o, e _ _ h⟩)
  · exact .inr h
))
def RAll {α : Type} (R : Rl α) (H : Hp) (vs : List V) (as : List α) : Prop := Paired (R H) vs as
theorem RAll.up {α : Type} {R : Rl α} [Up R] {H H' : Hp} {vs : List V} {as : List α} (e : Same H H') (h : RAll R H vs as) : RAll R H' vs as := Paired.mono (fun _ _ q => Up.up e q) h
theorem RAll.get {α : Type} {R : Rl α} {H : Hp} : ∀ {vs : List V} {as : List α} {i : Nat} {v : V}, RAll R H vs as → vs[i]? = some v → ∃ a, as[i]? = some a ∧ R H v a
  | _, _, _, _, .nil, e => by simp at e
  | _, _, 0, _, .cons h _, e => by simp at e; subst e; exact ⟨_, rfl, h⟩
  | _, _, i + 1, _, .cons _ t, e => by
    obtain ⟨a, h1, h2⟩ := RAll.get (i := i) t (by simpa using e)
    exact ⟨a, by simpa using h1, h2⟩
theorem RAll.getR {α : Type} {R : Rl α} {H : Hp} : ∀ {vs : List V} {as : List α} {i : Nat} {a : α}, RAll R H vs as → as[i]? = some a → ∃ v, vs[i]? = some v ∧ R H v a
  | _, _, _, _, .nil, e => by simp at e
  | _, _, 0, _, .cons h _, e => by simp at e; subst e; exact ⟨_, rfl, h⟩
  | _, _, i + 1, _, .cons _ t, e => by
    obtain ⟨a, h1, h2⟩ := RAll.getR (i := i) t (by simpa using e)
    exact ⟨a, by simpa using h1, h2⟩
theorem RAll.len {α : Type} {R : Rl α} {H : Hp} {vs : List V} {as : List α} (h : RAll R H vs as) : vs.length = as.length := Paired.length h
theorem RAll.snoc {α : Type} {R : Rl α} {H : Hp} {vs : List V} {as : List α} {v : V} {a : α} (h : RAll R H vs as) (q : R H v a) : RAll R H (vs ++ [v]) (as ++ [a]) := Paired.snoc h q
theorem RAll.append {α : Type} {R : Rl α} {H : Hp} : ∀ {vs ws : List V} {as bs : List α}, RAll R H vs as → RAll R H ws bs → RAll R H (vs ++ ws) (as ++ bs)
  | _, _, _, _, .nil, h => h
  | _, _, _, _, .cons a t, h => .cons a (RAll.append t h)
theorem RAll.take {α : Type} {R : Rl α} {H : Hp} : ∀ {vs : List V} {as : List α} (n : Nat), RAll R H vs as → RAll R H (vs.take n) (as.take n)
  | _, _, 0, _ => .nil
  | _, _, _ + 1, .nil => .nil
  | _, _, n + 1, .cons h t => .cons h (RAll.take n t)
theorem RAll.drop {α : Type} {R : Rl α} {H : Hp} : ∀ {vs : List V} {as : List α} (n : Nat), RAll R H vs as → RAll R H (vs.drop n) (as.drop n)
  | _, _, 0, h => h
  | _, _, _ + 1, .nil => .nil
  | _, _, n + 1, .cons _ t => RAll.drop n t
theorem RAll.ints {H : Hp} : ∀ {ns : List Int}, RAll RI H (ns.map V.int) ns
  | [] => .nil
  | _ :: _ => .cons rfl RAll.ints
theorem RAll.of_ints {H : Hp} : ∀ {vs : List V} {ns : List Int}, RAll RI H vs ns → vs = ns.map V.int
  | _, _, .nil => rfl
  | _, _, .cons h t => by
    rw [show _ = V.int _ from h, RAll.of_ints t]
    rfl
theorem RAll.of_strs {H : Hp} : ∀ {vs : List V} {ns : List Str}, RAll RS H vs ns → vs = ns.map V.str
  | _, _, .nil => rfl
  | _, _, .cons h t => by
    rw [show _ = V.str _ from h, RAll.of_strs t]
    rfl
theorem RAll.of_bls {H : Hp} : ∀ {vs : List V} {ns : List Bool}, RAll RB H vs ns → vs = ns.map V.bl
  | _, _, .nil => rfl
  | _, _, .cons h t => by
    rw [show _ = V.bl _ from h, RAll.of_bls t]
    rfl
def RT (K : PySem.W.Frag) {α : Type} (R : Rl α) : Rl (List α) := fun H v as => ∃ p vs, v = .ref p ∧ SqT K H p vs ∧ RAll R H vs as ∧ vs.length ≤ sizeLine
def RL (K : PySem.W.Frag) {α : Type} (R : Rl α) : Rl (List α) := fun H v as => ∃ p vs, v = .ref p ∧ SqL K H p vs ∧ RAll R H vs as ∧ vs.length ≤ sizeLine
def RP (K : PySem.W.Frag) {α β : Type} (R : Rl α) (S : Rl β) : Rl (α × β) := fun H v ab => ∃ p x y, v = .ref p ∧ SqT K H p [x, y] ∧ R H x ab.1 ∧ S H y ab.2
instance {K : PySem.W.Frag} {α : Type} {R : Rl α} [Up R] : Up (RT K R) := ⟨fun e ⟨p, vs, a, b, c, d⟩ => ⟨p, vs, a, Same.seqT e b, c.up e, d⟩⟩
instance {K : PySem.W.Frag} {α : Type} {R : Rl α} [Up R] : Up (RL K R) := ⟨fun e ⟨p, vs, a, b, c, d⟩ => ⟨p, vs, a, e.seq b, c.up e, d⟩⟩
instance {K : PySem.W.Frag} {α β : Type} {R : Rl α} {S : Rl β} [Up R] [Up S] : Up (RP K R S) := ⟨fun e ⟨p, x, y, a, b, c, d⟩ => ⟨p, x, y, a, Same.seqT e b, Up.up e c, Up.up e d⟩⟩
def Ob2 (C : Addr) (H : Hp) (v x y : V) : Prop := ∃ a dx, v = .ref a ∧ SlX.Slt H a C dx [some x, some y]
theorem Slt.up {H H' : Hp} {a C dx : Addr} {vs : List (Option V)} (e : Same H H') (h : SlX.Slt H a C dx vs) : SlX.Slt H' a C dx vs := @NI.run _ (by exact NI.carry : NI.Carry (by
  rcases h with ⟨h1, h2⟩ | ⟨h1, h2⟩
  · exact .inl ⟨e _ _ h1, h2⟩
  · exact .inr ⟨e _ _ h1, e _ _ h2⟩
))
theorem Ob2.up {C : Addr} {H H' : Hp} {v x y : V} (e : Same H H') (h : Ob2 C H v x y) : Ob2 C H' v x y := @NI.run _ (by exact NI.carry : NI.Carry (by
  obtain ⟨a, dx, h1, h2⟩ := h
  exact ⟨a, dx, h1, Slt.up e h2⟩
))
def RQ (C : Addr) : Rl Rat := fun H v q => Ob2 C H v (.int (q.den : Int)) (.int q.num)
instance {C : Addr} : Up (RQ C) := ⟨fun e h => Ob2.up e h⟩
def RTB (C : Addr) : Rl (Int × Int) := fun H v q => Ob2 C H v (.int q.2) (.int q.1)
instance {C : Addr} : Up (RTB C) := ⟨fun e h => Ob2.up e h⟩
theorem Same.new {H : Hp} {p : Addr} {o : HO} (h : H p = none) : Same H (upd H p o) := fun b u e => by
  rw [upd_ne (ne_of_none e h)]
  exact e
theorem RT.mk {K : PySem.W.Frag} {α : Type} {R : Rl α} [Up R] {H : Hp} {p : Addr} {vs : List V} {as : List α} (hp : H p = none) (h : RAll R H vs as) (hz : vs.length ≤ sizeLine) : RT K R (upd H p (.tup vs)) (.ref p) as :=
  ⟨p, vs, rfl, .inl (.inl upd_same), h.up (Same.new hp), hz⟩
theorem RL.mk {K : PySem.W.Frag} {α : Type} {R : Rl α} [Up R] {H : Hp} {p : Addr} {vs : List V} {as : List α} (hp : H p = none) (h : RAll R H vs as) (hz : vs.length ≤ sizeLine) : RL K R (upd H p (.lst vs)) (.ref p) as :=
  ⟨p, vs, rfl, .inl (.inl upd_same), h.up (Same.new hp), hz⟩
theorem RP.mk {K : PySem.W.Frag} {α β : Type} {R : Rl α} {S : Rl β} [Up R] [Up S] {H : Hp} {p : Addr} {x y : V} {a : α} {b : β} (hp : H p = none) (h1 : R H x a) (h2 : S H y b) : RP K R S (upd H p (.tup [x, y])) (.ref p) (a, b) :=
  ⟨p, x, y, rfl, .inl (.inl upd_same), Up.up (Same.new hp) h1, Up.up (Same.new hp) h2⟩
def hid (D : Addr) (H : Hp) : Hp := fun b => if b = D then none else H b
theorem hid_same {D : Addr} {H : Hp} : hid D H D = none := if_pos rfl
theorem hid_ne {D b : Addr} {H : Hp} (h : b ≠ D) : hid D H b = H b := if_neg h
theorem hid_some {D b : Addr} {H : Hp} {o : HO} (h : hid D H b = some o) : b ≠ D ∧ H b = some o := @NI.run _ (by exact NI.carry : NI.Carry (by
  by_cases e : b = D
  · rw [e, hid_same] at h
    cases h
  · rw [hid_ne e] at h
    exact ⟨e, h⟩
))
theorem hid_upd {D : Addr} {H : Hp} {o : HO} (h : H D = none) : hid D (upd H D o) = H := @NI.run _ (by exact NI.carry : NI.Carry (by
  funext b
  by_cases e : b = D
  · rw [e, hid_same, h]
  · rw [hid_ne e, upd_ne e]
))
section
variable {X : Cx} {pins : List (Addr × Obj)} {σ : L2.St} {H H' : Hp} {s s' : Shared} {D : Addr} {xs : List V}
theorem inv_hid (I : Inv X pins σ H s) (h : H D = some (.lst xs)) {its : List Value} {n : Nat} (e : s.heap.get? D = some { cls := .type "list", data := .seq its.toArray n }) :
    Inv X ((D, { cls := .type "list", data := .seq its.toArray n }) :: pins) σ (hid D H) s := @NI.run _ (by exact NI.carry : NI.Carry (by
  have hn : ∀ b, H b = none → hid D H b = none := fun b q => by
    by_cases z : b = D
    · rw [z, hid_same]
    · rw [hid_ne z]
      exact q
  have nd : ∀ b o, H b = some o → o ≠ .lst xs → hid D H b = some o := fun b o q z => by
    have w : b ≠ D := ne_of q h z
    rw [hid_ne w]
    exact q
  refine ⟨I.ok, I.os, I.bare, ?_, I.loc, I.cell, hn _ I.free, fun x c q => hn _ (I.freeC x c q), fun p hp => ?_, fun b o q => ?_, I.len⟩
  · have B := I.base
    refine ⟨B.keep, B.slot, fun b o q z w => hn _ (B.free b o q z w), B.there, fun b ys q => nd _ _ (B.tups b ys q) (by intro z; cases z), fun b o u q => nd _ _ (B.frzs b o u q) (by intro z; cases z), fun b ps q => ?_⟩
    obtain ⟨more, z⟩ := B.tbls b ps q
    exact ⟨more, nd _ _ z (by intro z; cases z)⟩
  · rcases List.mem_append.mp hp with q | q
    · obtain ⟨a, b, c⟩ := I.pin p (List.mem_append_left _ q)
      exact ⟨a, hn _ b, c⟩
    · rcases List.mem_cons.mp q with q | q
      · subst q
        refine ⟨e, hid_same, fun z => ?_, fun z => ?_, fun v z => by cases z⟩
        · have w : D = X.env.locals := z
          rw [w, I.free] at h
          cases h
        · have w : D ∈ frs X.stack := by
            rcases I.ok.stk with r | ⟨r, _⟩
            · rw [r]
              exact z
            · rw [r]
              exact (by
                unfold frs
                rw [List.filterMap_cons]
                split
                · exact z
                · exact List.mem_cons_of_mem _ z)
          rw [I.stkFree D w] at h
          cases h
      · obtain ⟨a, b, c⟩ := I.pin p (List.mem_append_right _ q)
        exact ⟨a, hn _ b, c⟩
  · obtain ⟨nb, q⟩ := hid_some q
    refine (I.hok b o q).stay (fun c u hc z => z) (fun c z => nd _ _ z (by intro z; cases z)) fun c ys z => nd _ _ z (by intro z; cases z)
))
theorem inv_unhid (I0 : Inv X pins σ H s) (h : H D = some (.lst xs)) {its : List Value} {n : Nat} (r : Vals xs its) (hz : xs.length ≤ sizeLine)
    (I : Inv X ((D, { cls := .type "list", data := .seq its.toArray n }) :: pins) σ H' s') : Inv X pins σ (upd H' D (.lst xs)) s' ∧ H' D = none := @NI.run _ (by exact NI.carry : NI.Carry (by
  obtain ⟨e, hd, hl, _, _⟩ := I.pin (D, { cls := .type "list", data := .seq its.toArray n }) (List.mem_append_right _ List.mem_cons_self)
  have hd : H' D = none := hd
  refine ⟨⟨I.ok, I.os, I.bare, ?_, I.loc, I.cell, ?_, fun x c q => ?_, fun p hp => ?_, fun b o q => ?_, I.len⟩, hd⟩
  · have B := I.base
    have B0 := I0.base
    have nd : ∀ b o, H' b = some o → upd H' D (.lst xs) b = some o := fun b o q => by
      rw [upd_ne (ne_of_none q hd)]
      exact q
    refine ⟨B.keep, B.slot, fun b o q z w => ?_, B.there, fun b ys q => nd _ _ (B.tups b ys q), fun b o u q => nd _ _ (B.frzs b o u q), fun b ps q => ?_⟩
    · by_cases y : b = D
      · subst y
        rw [B0.free b o q z w] at h
        cases h
      · rw [upd_ne y]
        exact B.free b o q z w
    · obtain ⟨more, z⟩ := B.tbls b ps q
      exact ⟨more, nd _ _ z⟩
  · rw [upd_ne (fun z => hl z.symm)]
    exact I.free
  · by_cases y : c = D
    · subst y
      have := I0.freeC x c q
      rw [this] at h
      cases h
    · rw [upd_ne y]
      exact I.freeC x c q
  · rcases List.mem_append.mp hp with q | q
    · obtain ⟨a, b, c⟩ := I.pin p (List.mem_append_left _ q)
      have y : p.1 ≠ D := fun y => by
        have := (I0.pin p hp).2.1
        rw [y, h] at this
        cases this
      exact ⟨a, by rw [upd_ne y]; exact b, c⟩
    · obtain ⟨a, b, c⟩ := I.pin p (List.mem_append_right _ (List.mem_cons_of_mem _ q))
      have y : p.1 ≠ D := fun y => by
        have := (I0.pin p hp).2.1
        rw [y, h] at this
        cases this
      exact ⟨a, by rw [upd_ne y]; exact b, c⟩
  · by_cases y : b = D
    · subst y
      rw [upd_same] at q
      cases q
      exact ⟨hz, its, n, r, e⟩
    · rw [upd_ne y] at q
      refine (I.hok b o q).stay (fun c u hc z => z) (fun c z => ?_) fun c ys z => ?_
      · rw [upd_ne (ne_of_none z hd)]
        exact z
      · rw [upd_ne (ne_of_none z hd)]
        exact z
))
def tHid (te : TE) : TE := fun σ H Q => ∃ (D : Addr) (xs : List V), H D = some (.lst xs) ∧ te σ (hid D H) fun v H' => H' D = none → Q v (upd H' D (.lst xs))
theorem pe_hid {e : Expr} {te : TE} (h : PE X e te) : PE X e (tHid te) := @NI.run _ (by exact NI.carry : NI.Carry (by
  refine ⟨fun pins s σ H Q I hq => ?_⟩
  obtain ⟨D, xs, hD, q⟩ := hq
  obtain ⟨hz, its, n, r, e⟩ := (show ObjOk X.prog X.w H s.heap D (.lst xs) from I.hok D _ hD)
  refine thn (h.run _ s σ _ _ (inv_hid I hD e) q) fun u s1 ⟨v, H1, I1, rv, k⟩ => ?_
  obtain ⟨I2, hn⟩ := inv_unhid I hD r hz I1
  exact ⟨v, _, I2, rv, k hn⟩
))
def tHidT (tt : TT) : TT := fun σ H Q => ∃ (D : Addr) (xs : List V), H D = some (.lst xs) ∧ tt σ (hid D H) fun b H' => H' D = none → Q b (upd H' D (.lst xs))
theorem pts_hid {es : List Expr} {tt : TT} (h : PTs X es tt) : PTs X es (tHidT tt) := @NI.run _ (by exact NI.carry : NI.Carry (by
  refine ⟨fun pins s σ H Q I hq => ?_⟩
  obtain ⟨D, xs, hD, q⟩ := hq
  obtain ⟨hz, its, n, r, e⟩ := (show ObjOk X.prog X.w H s.heap D (.lst xs) from I.hok D _ hD)
  refine thn (h.run _ s σ _ _ (inv_hid I hD e) q) fun b s1 ⟨H1, I1, k⟩ => ?_
  obtain ⟨I2, hn⟩ := inv_unhid I hD r hz I1
  exact ⟨_, I2, k hn⟩
))
end
end Wo
end
section
namespace Wo
open PySem PySem.Spec PyProof.Rows L2
structure Wk {α : Type} (J : It) (H0 : Hp) (R : Rl α) (as : List α) : Prop where
  go : ∀ i H, Same H0 H → i < as.length → J.go i H
  stop : ∀ H, Same H0 H → J.stop as.length H
  yld : ∀ i H x H' a, Same H0 H → as[i]? = some a → J.yld i H x H' → Same H H' ∧ R H' x a
  yldD : ∀ i G D o x H' a, Same H0 G → G D = none → as[i]? = some a → J.yld i (upd G D o) x H' → ∃ G', Same G G' ∧ G' D = none ∧ H' = upd G' D o ∧ R G' x a
section
variable {K : PySem.W.Frag} {α β : Type} {R : Rl α} {S : Rl β} {H : Hp}
theorem wk_list [Up R] {a : Addr} {as : List α} (h : RL K R H (.ref a) as) : Wk (Itl K a) H R as := @NI.run _ (by exact NI.carry : NI.Carry (by
  obtain ⟨p, vs, e, hs, hr, hz⟩ := h
  cases e
  have hl := hr.len
  refine ⟨fun i H' s hi => ?_, fun H' s => ⟨vs, s.seq hs, by omega⟩, fun i H' x H'' b s hb hy => ?_, fun i G D o x H'' b s hD hb hy => ?_⟩
  · have hi' : i < vs.length := by omega
    exact ⟨vs, vs[i], s.seq hs, by simp [hi']⟩
  · obtain ⟨e, y⟩ := hy
    rw [e]
    have y := y vs (s.seq hs)
    obtain ⟨c, hc, rc⟩ := hr.get y
    rw [hb] at hc
    cases hc
    exact ⟨Same.refl _, Up.up s rc⟩
  · obtain ⟨e, y⟩ := hy
    have y := y vs ((s.trans (Same.new hD)).seq hs)
    obtain ⟨c, hc, rc⟩ := hr.get y
    rw [hb] at hc
    cases hc
    exact ⟨G, Same.refl _, hD, e, Up.up s rc⟩
))
theorem wk_tup [Up R] {a : Addr} {as : List α} (h : RT K R H (.ref a) as) : Wk (Itt K a) H R as := @NI.run _ (by exact NI.carry : NI.Carry (by
  obtain ⟨p, vs, e, hs, hr, hz⟩ := h
  cases e
  have hl := hr.len
  refine ⟨fun i H' s hi => ?_, fun H' s => ⟨vs, Same.seqT s hs, by omega⟩, fun i H' x H'' b s hb hy => ?_, fun i G D o x H'' b s hD hb hy => ?_⟩
  · have hi' : i < vs.length := by omega
    exact ⟨vs, vs[i], Same.seqT s hs, by simp [hi']⟩
  · obtain ⟨e, y⟩ := hy
    rw [e]
    have y := y vs (Same.seqT s hs)
    obtain ⟨c, hc, rc⟩ := hr.get y
    rw [hb] at hc
    cases hc
    exact ⟨Same.refl _, Up.up s rc⟩
  · obtain ⟨e, y⟩ := hy
    have y := y vs (Same.seqT (s.trans (Same.new hD)) hs)
    obtain ⟨c, hc, rc⟩ := hr.get y
    rw [hb] at hc
    cases hc
    exact ⟨G, Same.refl _, hD, e, Up.up s rc⟩
))
def rgI (lo : Int) (n : Nat) : List Int := (List.range n).map fun i => lo + (i : Nat)
theorem rgI_len (lo : Int) (n : Nat) : (rgI lo n).length = n := @NI.run _ (by exact NI.carry : NI.Carry (by simp [rgI]
))
theorem rgI_get {lo : Int} {n i : Nat} (h : i < n) : (rgI lo n)[i]? = some (lo + (i : Nat)) := @NI.run _ (by exact NI.carry : NI.Carry (by simp [rgI, h]
))
theorem rgI_mem {lo x : Int} {n : Nat} : x ∈ rgI lo n ↔ lo ≤ x ∧ x < lo + n := @NI.run _ (by exact NI.carry : NI.Carry (by
  unfold rgI
  rw [List.mem_map]
  constructor
  · rintro ⟨i, hi, rfl⟩
    have := List.mem_range.mp hi
    omega
  · rintro ⟨h1, h2⟩
    exact ⟨(x - lo).toNat, List.mem_range.mpr (by omega), by omega⟩
))
theorem wk_range {lo : Int} {n : Nat} : Wk (Itr lo n) H RI (rgI lo n) := @NI.run _ (by exact NI.carry : NI.Carry (by
  have hl := rgI_len lo n
  refine ⟨fun i H' s hi => by rw [hl] at hi; exact hi, fun H' s => by rw [hl]; exact Nat.le_refl _, fun i H' x H'' b s hb hy => ?_, fun i G D o x H'' b s hD hb hy => ?_⟩
  · obtain ⟨e, y⟩ := hy
    have hi : i < n := by
      have := (List.getElem?_eq_some_iff.mp hb).1
      omega
    rw [rgI_get hi] at hb
    cases hb
    rw [e]
    exact ⟨Same.refl _, y⟩
  · obtain ⟨e, y⟩ := hy
    have hi : i < n := by
      have := (List.getElem?_eq_some_iff.mp hb).1
      omega
    rw [rgI_get hi] at hb
    cases hb
    exact ⟨G, Same.refl _, hD, e, y⟩
))
theorem zip_get {as : List α} {bs : List β} {i : Nat} {c : α × β} (h : (as.zip bs)[i]? = some c) : as[i]? = some c.1 ∧ bs[i]? = some c.2 := @NI.run _ (by exact NI.carry : NI.Carry (by
  rw [List.getElem?_zip_eq_some] at h
  exact h
))
theorem upd_comm {G : Hp} {D T : Addr} {o u : HO} (h : T ≠ D) : upd (upd G D o) T u = upd (upd G T u) D o := @NI.run _ (by exact NI.carry : NI.Carry (by
  funext b
  by_cases h1 : b = T
  · rw [h1, upd_same, upd_ne h, upd_same]
  · rw [upd_ne h1]
    by_cases h2 : b = D
    · rw [h2, upd_same, upd_same]
    · rw [upd_ne h2, upd_ne h2, upd_ne h1]
))
end
def GOk (g : TG) (x : V) (σ1 : L2.St) (H : Hp) (σ2 : L2.St) : Prop := ∀ H', Same H H' → ∀ Q : L2.St → Hp → Prop, Q σ2 H' → g x σ1 H' Q
theorem gok_name {i : Nat} {x : V} {σ : L2.St} {H : Hp} : GOk (gName i) x σ H (σ.set i (some x)) := fun _ _ _ q => q
theorem gok_pair {K : PySem.W.Frag} {p : Addr} {x y : V} {g1 g2 : TG} {σ σ1 σ2 : L2.St} {H : Hp} (h : SqT K H p [x, y]) (k1 : GOk g1 x σ H σ1) (k2 : GOk g2 y σ1 H σ2) : GOk (gTup K 2 (gCons g1 (gCons g2 gNil))) (.ref p) σ H σ2 := fun H' s Q q =>
  ⟨p, [x, y], rfl, Same.seqT s h, rfl, x, [y], rfl, k1 H' s _ ⟨y, [], rfl, k2 H' s _ ⟨rfl, q⟩⟩⟩
theorem tYes_of {σ : L2.St} {H : Hp} {A B : Hp → Prop} (h : A H) : tYes σ H fun b H3 => if b = true then A H3 else B H3 := @NI.run _ (by exact NI.carry : NI.Carry (by
  show (if true = true then A H else B H)
  rw [if_pos rfl]
  exact h
))
section
variable {K : PySem.W.Frag} {α β : Type} {R : Rl α} {S : Rl β} [Up R] [Up S] {J : It} {H1 : Hp} {as : List α} {g : TG} {te : TE} {tt : TT} {vs : List Nat} {σ : L2.St}
theorem lc_map (W : Wk J H1 R as) (hz : as.length ≤ sizeLine) (f : Nat → α → β) {Qd : Addr → Hp → Prop}
    (hb : ∀ i a G x, as[i]? = some a → Same H1 G → R G x a → ∃ σ2, GOk g x (wipe σ vs) G σ2 ∧ wipe σ2 vs = wipe σ vs ∧ ∀ Kt : VK, (∀ y G', Same G G' → S G' y (f i a) → Kt y G') → te σ2 G Kt)
    (hd : ∀ D H', Same H1 H' → RL K S H' (.ref D) (as.mapIdx f) → Qd D H') :
    ∀ D, H1 D = none → ∃ W : Nat → Nat → Hp → Prop, (∃ m, W 0 m (upd H1 D (.lst []))) ∧ ∀ i m H, W i m H →
      (J.stop i H ∧ Qd D H) ∨ (J.go i H ∧ ∃ Nx : Hp → Prop, (∀ H', Nx H' → ∃ m', m' < m ∧ W (i + 1) m' H') ∧ ∀ x H', J.yld i H x H' → g x (wipe σ vs) H' fun σ2 H2 => wipe σ2 vs = wipe σ vs ∧ tYes σ2 H2 fun b H3 =>
        if b = true then (tHid te) σ2 H3 fun y H4 => ∃ acc, H4 D = some (.lst acc) ∧ acc.length < sizeLine ∧ Nx (upd H4 D (.lst (acc ++ [y]))) else Nx H3) := @NI.run _ (by exact NI.carry : NI.Carry (by
  intro D hD
  refine ⟨fun i m H => m = as.length - i ∧ i ≤ as.length ∧ ∃ G acc, H = upd G D (.lst acc) ∧ G D = none ∧ Same H1 G ∧ RAll S G acc ((as.mapIdx f).take i), ⟨as.length, by simp, Nat.zero_le _, H1, [], rfl, hD, Same.refl _, by rw [List.take_zero]; exact .nil⟩, ?_⟩
  rintro i m H ⟨rfl, hi, G, acc, rfl, hG, s, ra⟩
  have hla : acc.length = i := by
    rw [ra.len, List.length_take, List.length_mapIdx]
    omega
  by_cases hlt : i < as.length
  · refine .inr ⟨W.go i _ (s.trans (Same.new hG)) hlt, fun H' => ∃ G' acc', H' = upd G' D (.lst acc') ∧ G' D = none ∧ Same H1 G' ∧ RAll S G' acc' ((as.mapIdx f).take (i + 1)), ?_, ?_⟩
    · rintro H' ⟨G', acc', e, h1, h2, h3⟩
      exact ⟨as.length - (i + 1), by omega, rfl, hlt, G', acc', e, h1, h2, h3⟩
    · intro x H' hy
      obtain ⟨G', s2, hG', eH, rx⟩ := W.yldD i G D _ x H' as[i] s hG (by simp [hlt]) hy
      subst eH
      obtain ⟨σ2, gk, hw, ht⟩ := hb i as[i] G' x (by simp [hlt]) (s.trans s2) rx
      refine gk _ (Same.new hG') _ ⟨hw, ?_⟩
      refine tYes_of ?_
      refine ⟨D, acc, upd_same, ?_⟩
      rw [hid_upd hG']
      refine ht _ fun y G2 s3 hy2 hG2 => ?_
      refine ⟨acc, upd_same, by omega, G2, acc ++ [y], ?_, hG2, (s.trans s2).trans s3, ?_⟩
      · rw [upd_upd]
      · have e : (as.mapIdx f).take (i + 1) = (as.mapIdx f).take i ++ [f i as[i]] := by
          rw [List.take_succ]
          simp [hlt]
        rw [e]
        exact (ra.up (s2.trans s3)).snoc hy2
  · have e : i = as.length := by omega
    subst e
    refine .inl ⟨W.stop _ (s.trans (Same.new hG)), hd D _ (s.trans (Same.new hG)) ?_⟩
    have e2 : (as.mapIdx f).take as.length = as.mapIdx f := by
      rw [List.take_of_length_le]
      simp
    rw [e2] at ra
    exact RL.mk hG ra (by omega)
))
end
end Wo
end
section
namespace Wo
open PySem PySem.Spec PyProof.Rows L2
section
variable {σ : L2.St} {H : Hp} {Q : VK} {D : Ends} {v x y : V} {i j : Int} {n : Nat} {ta tb tc te : TE} {t u : TS} {tt tt' : TT} {K : PySem.W.Frag} {ts : TA}
theorem rd_var (h : σ[n]? = some (some v)) (q : Q v H) : tVar n σ H Q := ⟨v, h, q⟩
theorem rd_c (q : Q v H) : tC v σ H Q := q
theorem rd_op {r : R2} (q : ta σ H fun x H1 => tb σ H1 fun y H2 => r x y H2 Q) : tOp r ta tb σ H Q := q
theorem rd_un {r : V → Hp → VK → Prop} (q : ta σ H fun x H1 => r x H1 Q) : tUn r ta σ H Q := q
theorem rd_I0 {g : Int → Int → V} (q : Q (g i j) H) : rI0 g (.int i) (.int j) H Q := ⟨i, j, rfl, rfl, q⟩
theorem rd_I {C : Int → Int → Prop} {g : Int → Int → V} (q : Q (g i j) H) (c : C i j) : rI C g (.int i) (.int j) H Q := ⟨i, j, rfl, rfl, c, q⟩
theorem rd_U {g : Int → V} (q : Q (g i) H) : rU g (.int i) H Q := ⟨i, rfl, q⟩
theorem rd_eqI (q : Q (.bl (decide (i = j))) H) : rEq (.int i) (.int j) H Q := @NI.run _ (by exact NI.carry : NI.Carry (by
  refine ⟨rfl, ?_⟩
  have e : decide (V.int i = V.int j) = decide (i = j) := decide_eq_decide.mpr ⟨fun h => V.int.inj h, fun h => congrArg _ h⟩
  rw [e]
  exact q
))
theorem rd_neI (q : Q (.bl (!decide (i = j))) H) : rNe (.int i) (.int j) H Q := @NI.run _ (by exact NI.carry : NI.Carry (by
  refine ⟨rfl, ?_⟩
  have e : decide (V.int i = V.int j) = decide (i = j) := decide_eq_decide.mpr ⟨fun h => V.int.inj h, fun h => congrArg _ h⟩
  rw [e]
  exact q
))
theorem rd_eqS {a b : Str} (q : Q (.bl (decide (a = b))) H) : rEq (.str a) (.str b) H Q := @NI.run _ (by exact NI.carry : NI.Carry (by
  refine ⟨rfl, ?_⟩
  have e : decide (V.str a = V.str b) = decide (a = b) := decide_eq_decide.mpr ⟨fun h => V.str.inj h, fun h => congrArg _ h⟩
  rw [e]
  exact q
))
theorem rd_neS {a b : Str} (q : Q (.bl (!decide (a = b))) H) : rNe (.str a) (.str b) H Q := @NI.run _ (by exact NI.carry : NI.Carry (by
  refine ⟨rfl, ?_⟩
  have e : decide (V.str a = V.str b) = decide (a = b) := decide_eq_decide.mpr ⟨fun h => V.str.inj h, fun h => congrArg _ h⟩
  rw [e]
  exact q
))
theorem rd_test {P : Bool → Hp → Prop} (q : te σ H fun x H' => ∃ k, x = .bl k ∧ P k H') : tTest te σ H P := q
theorem rd_tB {P : Bool → Hp → Prop} (q : te σ H fun x H' => ∃ k, x = .bl k ∧ P k H') : tB te σ H P := q
theorem rd_exB {P : Bool → Prop} {b : Bool} (q : P b) : ∃ k, V.bl b = .bl k ∧ P k := ⟨b, rfl, q⟩
theorem rd_and {P : Bool → Hp → Prop} (q : tt σ H fun c H1 => if c = true then tt' σ H1 P else P false H1) : tAnd tt tt' σ H P := q
theorem rd_or {P : Bool → Hp → Prop} (q : tt σ H fun c H1 => if c = true then P true H1 else tt' σ H1 P) : tOr tt tt' σ H P := q
theorem rd_not {P : Bool → Hp → Prop} (q : tt σ H fun c H1 => P (!c) H1) : tNot tt σ H P := q
theorem rd_andV (q : ta σ H fun x H1 => ∃ c, x = .bl c ∧ if c = true then tb σ H1 Q else Q (.bl false) H1) : tAndV ta tb σ H Q := q
theorem rd_orV (q : ta σ H fun x H1 => ∃ c, x = .bl c ∧ if c = true then Q (.bl true) H1 else tb σ H1 Q) : tOrV ta tb σ H Q := q
theorem rd_notV (q : ta σ H fun x H1 => ∃ c, x = .bl c ∧ Q (.bl (!c)) H1) : tNotV ta σ H Q := q
theorem rd_if (q : tt σ H fun c H1 => if c = true then ta σ H1 Q else tb σ H1 Q) : tIf tt ta tb σ H Q := q
theorem rd_chain {r r' : R2} (q : ta σ H fun x H1 => tb σ H1 fun y H2 => r x y H2 fun z H3 => ∃ k, z = .bl k ∧ (if k = true then tc σ H3 fun w' H4 => r' y w' H4 Q else Q (.bl false) H3)) : tChain r r' ta tb tc σ H Q := q
theorem rd_nil {P : List V → Hp → Prop} (q : P [] H) : tNil σ H P := q
theorem rd_cons {P : List V → Hp → Prop} (q : ta σ H fun x H1 => ts σ H1 fun xs H2 => P (x :: xs) H2) : tCons ta ts σ H P := q
theorem rd_call {sp : Sp} {E : XK} (q : ts σ H fun vs H1 => sp vs H1 Q E) : tCallR sp E ts σ H Q := q
theorem rd_cb {r : List V → Hp → VK → Prop} (q : ts σ H fun vs H1 => r vs H1 Q) : tCB r ts σ H Q := q
theorem rd_tup (q : ts σ H fun xs H1 => xs.length ≤ sizeLine ∧ ∀ p, H1 p = none → Q (.ref p) (upd H1 p (.tup xs))) : tTup ts σ H Q := q
theorem rd_lst (q : ts σ H fun xs H1 => xs.length ≤ sizeLine ∧ ∀ p, H1 p = none → Q (.ref p) (upd H1 p (.lst xs))) : tLst ts σ H Q := q
theorem rd_seq (q : t { D with nx := u D } σ H) : tSeq t u D σ H := q
theorem rd_next (q : D.nx σ H) : tNext D σ H := q
theorem rd_drop (q : te σ H fun _ H1 => D.nx σ H1) : tDrop te D σ H := q
theorem rd_ret (q : te σ H D.rt) : tRet te D σ H := q
theorem rd_retN (q : D.rt .non H) : tRetN D σ H := q
theorem rd_ifS (q : tt σ H fun b H1 => if b = true then t D σ H1 else u D σ H1) : tIfS tt t u D σ H := q
theorem rd_asg {g : TG} (q : te σ H fun x H1 => g x σ H1 D.nx) : tAsg te g D σ H := q
theorem rd_gname {P : L2.St → Hp → Prop} (q : P (σ.set n (some v)) H) : gName n v σ H P := q
theorem rd_par {m : Nat} (q : ts σ H fun vs H1 => ∃ v w, vs = [v, w] ∧ D.nx ((σ.set n (some v)).set m (some w)) H1) : tPar n m ts D σ H := q
theorem rd_ex2 {P : V → V → Prop} (q : P v x) : ∃ a b, [v, x] = [a, b] ∧ P a b := ⟨v, x, rfl, q⟩
end
section
variable {A B P : Prop} {b : Bool}
theorem ite_dec [Decidable P] (h1 : P → A) (h2 : ¬ P → B) : if decide P = true then A else B := @NI.run _ (by exact NI.carry : NI.Carry (by
  by_cases h : P
  · rw [if_pos (decide_eq_true h)]
    exact h1 h
  · rw [if_neg (by simpa using h)]
    exact h2 h
))
theorem ite_T (h : A) : if true = true then A else B := @NI.run _ (by exact NI.carry : NI.Carry (by rw [if_pos rfl]; exact h
))
theorem ite_F (h : B) : if false = true then A else B := @NI.run _ (by exact NI.carry : NI.Carry (by rw [if_neg Bool.false_ne_true]; exact h
))
theorem ite_f (e : b = false) (h : B) : if b = true then A else B := @NI.run _ (by exact NI.carry : NI.Carry (by rw [e]; exact ite_F h
))
end
end Wo
end
section
namespace Wo
open PySem PySem.Spec PyProof.Rows L2
def Ctor (P : Program) (w : World) (K : PySem.W.Frag) (mg : Str → Option Value) (base : Heap) (k : Nat) (x : Str) (sp : Sp) : Prop :=
  ∃ (C fi : Addr) (spi : Sp), mg x = some (.ref C) ∧ Mk K C fi ∧ FnR P w K mg base (CXW P w) k fi spi ∧
    ∀ vs H Q E, sp vs H Q E → ∀ y dx, H y = none → H dx = none → dx ≠ y → spi (.ref y :: vs) (upd (upd H dx (.own y)) y (.ins C dx [])) (fun v H2 => v = .non ∧ Q (.ref y) H2) E
section
variable {X : Cx} {k j : Nat} {sp : Sp} {x : Str} {p pos : Pos} {e : Expr} {es : List Expr} {t : TA} {E : XK}
theorem pm (c : Ctor X.prog X.w X.K X.mg X.base k x sp) (hr : Room j X.A) (ha : PA X (e :: es) t) (hk : k + 1 ≤ j := by decide) (hg : Gl X x := by rfl) (hdb : (x == ("__debug__" : Str)) = false := by decide)
    (he : starEach (e :: es) X.env = (false, eval e X.env) :: starEach es X.env := by rfl) (hpl : (backTo pos (starEach es X.env)).any (·.1) = false := by rfl) : PE X (.Call (.Name x p) (e :: es) [] pos) (tCallR sp E0 t) := @NI.run _ (by exact NI.carry : NI.Carry (by
  obtain ⟨C, fi, spi, hm, M, F, kk⟩ := c
  refine ⟨fun pins s σ H Q I h => ?_⟩
  refine wpAny_Call_Name_kw (ld_glob I hg hm ?_ hdb)
  refine PySem.W.callWith_K (h₀ := X.base) I.ok.mod.kin M.kp (thn (ha.run pos pins s σ H _ I h) fun us s1 ⟨vs, H1, I1, r, q⟩ => ⟨I1.kIn, ?_⟩) he hpl
  exact StX.run_makeR M F (hr.mono hk) passF I1 r fun y dx h1 h2 h3 => kk vs H1 Q E0 q y dx h1 h2 h3
))
theorem pe_gI {i : Int} (h : ∃ t, X.mg x = some (.int i t)) (hg : Gl X x := by rfl) (hd : (x == ("__debug__" : Str)) = false := by decide) (hc : (x == ("__classdict__" : Str)) = false := by decide) : PE X (.Name x pos) (tC (.int i)) := @NI.run _ (by exact NI.carry : NI.Carry (by
  obtain ⟨t, h⟩ := h
  exact pe_glob hg h (show RelV (.int i) (.int i t) from ⟨t, rfl⟩) hd
))
end
section
variable {K : PySem.W.Frag} {C fi : Addr} {f0 f1 : Str} {σ : L2.St} {H : Hp} {Q : VK} {v x y z : V} {D : Ends} {ta tv : TE}
theorem rd_slot {f : Str} (q : ta σ H fun x H1 => ∃ a C dx p vs i v, x = .ref a ∧ SlX.Slt H1 a C dx vs ∧ SlX.SCls K C ∧ SlX.Slot1 K C f p i ∧ vs[i]? = some (some v) ∧ Q v H1) : SlX.tSl K ta f σ H Q := q
theorem rd_slot0 {Q : V → Prop} (T : Sl2 K C f0 f1 fi) (h : Ob2 C H v x y) (q : Q x) : ∃ a C dx p vs i z, v = .ref a ∧ SlX.Slt H a C dx vs ∧ SlX.SCls K C ∧ SlX.Slot1 K C f0 p i ∧ vs[i]? = some (some z) ∧ Q z := @NI.run _ (by exact NI.carry : NI.Carry (by
  obtain ⟨a, dx, e, s⟩ := h
  obtain ⟨p, sp⟩ := T.s0
  exact ⟨a, C, dx, p, _, 0, x, e, s, T.cl, sp, rfl, q⟩
))
theorem rd_slot1 {Q : V → Prop} (T : Sl2 K C f0 f1 fi) (h : Ob2 C H v x y) (q : Q y) : ∃ a C dx p vs i z, v = .ref a ∧ SlX.Slt H a C dx vs ∧ SlX.SCls K C ∧ SlX.Slot1 K C f1 p i ∧ vs[i]? = some (some z) ∧ Q z := @NI.run _ (by exact NI.carry : NI.Carry (by
  obtain ⟨a, dx, e, s⟩ := h
  obtain ⟨p, sp⟩ := T.s1
  exact ⟨a, C, dx, p, _, 1, y, e, s, T.cl, sp, rfl, q⟩
))
theorem rd_sst {f : Str} (q : tv σ H fun y H1 => ta σ H1 fun x H2 => ∃ a C dx p vs i, x = .ref a ∧ SlX.Slt H2 a C dx vs ∧ SlX.SCls K C ∧ SlX.Slot1 K C f p i ∧ D.nx σ (SlX.slH H2 a C dx (SlX.putS i y vs))) : SlX.sSl K ta tv f D σ H := q
def sp_init2 (C : Addr) : Sp := sp3 fun s a b H Q _ => ∃ y dx, s = .ref y ∧ dx ≠ y ∧ H y = some (.ins C dx []) ∧ ∀ H', SlX.Slt H' y C dx [some b, some a] → (∀ c o, H c = some o → c ≠ y → c ≠ dx → H' c = some o) → Q .non H'
end
def UrnO (u : Addr) (P : List V → Prop) : HO := .ext fun h => ∃ (xs : List V) (its : List Value) (n : Nat), P xs ∧ xs.length ≤ sizeLine ∧ Vals xs its ∧ h.get? u = some { cls := .type "list", data := .seq its.toArray n }
theorem urn_ok {P : Program} {w : World} {H : Hp} {h : Heap} {u : Addr} {p : List V → Prop} {xs : List V} (hp : p xs) (q : ObjOk P w H h u (.lst xs)) {H' : Hp} : ObjOk P w H' h u (UrnO u p) := @NI.run _ (by exact NI.carry : NI.Carry (by
  obtain ⟨z, its, n, r, e⟩ := q
  refine ⟨⟨xs, its, n, hp, z, r, e⟩, ⟨_, e⟩, fun h1 h2 ⟨xs, its, n, a, b, c, d⟩ st => ⟨xs, its, n, a, b, c, st _ d⟩⟩
))
theorem urn_lst {P : Program} {w : World} {H : Hp} {h : Heap} {u : Addr} {p : List V → Prop} (q : ObjOk P w H h u (UrnO u p)) : ∃ xs, p xs ∧ ∀ H', ObjOk P w H' h u (.lst xs) := @NI.run _ (by exact NI.carry : NI.Carry (by
  obtain ⟨⟨xs, its, n, hp, z, r, e⟩, _, _⟩ := q
  exact ⟨xs, hp, fun H' => ⟨z, its, n, r, e⟩⟩
))
section
variable {P : Program} {w : World} {K : PySem.W.Frag} {mg : Str → Option Value} {base : Heap} {k : Nat} {f : Addr} {sp spC : Sp} {p : List V → Prop}
theorem hok_swap {H : Hp} {h : Heap} {u : Addr} {o o' : HO} (hok : HOk P w H h) (hu : H u = some o) (h1 : ∀ x, o ≠ .own x) (h2 : ∀ xs, o ≠ .tup xs) (new : ObjOk P w (upd H u o') h u o') : HOk P w (upd H u o') h := fun b q e => by
  by_cases z : b = u
  · subst z
    rw [upd_same] at e
    cases e
    exact new
  · rw [upd_ne z] at e
    refine (hok b q e).stay (fun c v hc z => z) (fun c z => ?_) fun c xs z => ?_
    · rw [upd_ne (ne_of z hu (Ne.symm (h1 b)))]
      exact z
    · rw [upd_ne (ne_of z hu (Ne.symm (h2 xs)))]
      exact z
end
def rLen (K : PySem.W.Frag) : List V → Hp → VK → Prop := fun xs H Q => ∃ p ys, xs = [.ref p] ∧ (SqL K H p ys ∨ SqT K H p ys) ∧ Q (.int ys.length) H
def rAbs : List V → Hp → VK → Prop := fun xs H Q => ∃ i, xs = [.int i] ∧ Q (.int (if i < 0 then -i else i)) H
def rMax2 : List V → Hp → VK → Prop := fun xs H Q => ∃ i j, xs = [.int i, .int j] ∧ Q (.int (if j > i then j else i)) H
def rMin2 : List V → Hp → VK → Prop := fun xs H Q => ∃ i j, xs = [.int i, .int j] ∧ Q (.int (if j < i then j else i)) H
def rInt1 : List V → Hp → VK → Prop := fun xs H Q => (∃ i, xs = [.int i] ∧ Q (.int i) H) ∨ ∃ k, xs = [.bl k] ∧ Q (.int (if k then 1 else 0)) H
def rTupOf (K : PySem.W.Frag) : List V → Hp → VK → Prop := fun xs H Q => ∃ p ys, xs = [.ref p] ∧ ((SqL K H p ys ∧ ∀ l, H l = none → Q (.ref l) (upd H l (.tup ys))) ∨ (SqT K H p ys ∧ Q (.ref p) H))
def rLstOf (K : PySem.W.Frag) : List V → Hp → VK → Prop := fun xs H Q => ∃ p ys, xs = [.ref p] ∧ (SqL K H p ys ∨ SqT K H p ys) ∧ ∀ l, H l = none → Q (.ref l) (upd H l (.lst ys))
section
variable {X : Cx}
theorem bi_len : CallR X (.builtin "len") (rLen X.K) := call_len_seq
theorem bi_abs : CallR X (.builtin "abs") rAbs := call_abs
theorem bi_max2 (hc : X.calm = true) : CallR X (.builtin "max") rMax2 := call_max2 hc
theorem bi_min2 (hc : X.calm = true) : CallR X (.builtin "min") rMin2 := call_min2 hc
theorem bi_int1 : CallR X (.type "int") rInt1 := call_int1
theorem bi_tuple : CallR X (.type "tuple") (rTupOf X.K) := call_tuple_of
theorem bi_list : CallR X (.type "list") (rLstOf X.K) := call_list_of
end
section
variable {K : PySem.W.Frag} {α β : Type} {R : Rl α} {S : Rl β} {H : Hp} {Q : VK} {v x : V} {as : List α} {i : Int} {n : Nat} {a : α} {b : β}
theorem rd_lenL {as : List α} (h : RL K R H v as) (q : Q (.int (as.length : Int)) H) : rLen K [v] H Q := @NI.run _ (by exact NI.carry : NI.Carry (by
  obtain ⟨p, vs, rfl, hs, hr, hz⟩ := h
  exact ⟨p, vs, rfl, .inl hs, by rw [hr.len]; exact q⟩
))
theorem rd_lenT {as : List α} (h : RT K R H v as) (q : Q (.int (as.length : Int)) H) : rLen K [v] H Q := @NI.run _ (by exact NI.carry : NI.Carry (by
  obtain ⟨p, vs, rfl, hs, hr, hz⟩ := h
  exact ⟨p, vs, rfl, .inr hs, by rw [hr.len]; exact q⟩
))
theorem rd_tupleL [Up R] (h : RL K R H v as) (k : ∀ w H', Same H H' → RT K R H' w as → Q w H') : rTupOf K [v] H Q := @NI.run _ (by exact NI.carry : NI.Carry (by
  obtain ⟨p, vs, rfl, hs, hr, hz⟩ := h
  exact ⟨p, vs, rfl, .inl ⟨hs, fun l hl => k _ _ (Same.new hl) (RT.mk hl hr hz)⟩⟩
))
theorem rd_listT [Up R] (h : RT K R H v as) (k : ∀ w H', Same H H' → RL K R H' w as → Q w H') : rLstOf K [v] H Q := @NI.run _ (by exact NI.carry : NI.Carry (by
  obtain ⟨p, vs, rfl, hs, hr, hz⟩ := h
  exact ⟨p, vs, rfl, .inr hs, fun l hl => k _ _ (Same.new hl) (RL.mk hl hr hz)⟩
))
theorem rd_ixL (h : RL K R H v as) (hi : as[n]? = some a) (k : ∀ w, R H w a → Q w H) (hn : i = (n : Int) := by rfl) : rIxL K v (.int i) H Q := @NI.run _ (by exact NI.carry : NI.Carry (by
  obtain ⟨p, vs, rfl, hs, hr, hz⟩ := h
  obtain ⟨w, hw, rw⟩ := hr.getR hi
  subst hn
  exact ⟨p, vs, _, w, rfl, rfl, hs, atI_nat hw, k w rw⟩
))
theorem rd_ixT (h : RT K R H v as) (hi : as[n]? = some a) (k : ∀ w, R H w a → Q w H) (hn : i = (n : Int) := by rfl) : rIxT K v (.int i) H Q := @NI.run _ (by exact NI.carry : NI.Carry (by
  obtain ⟨p, vs, rfl, hs, hr, hz⟩ := h
  obtain ⟨w, hw, rw⟩ := hr.getR hi
  subst hn
  exact ⟨p, vs, _, w, rfl, rfl, hs, atI_nat hw, k w rw⟩
))
theorem rd_abs (q : Q (.int (i.natAbs : Int)) H) : rAbs [.int i] H Q := ⟨i, rfl, by
  have e : (if i < 0 then -i else i) = (i.natAbs : Int) := by split <;> omega
  rw [e]
  exact q⟩
theorem rd_int (q : Q (.int i) H) : rInt1 [.int i] H Q := .inl ⟨i, rfl, q⟩
theorem rd_intB {k : Bool} (q : Q (.int (if k then 1 else 0)) H) : rInt1 [.bl k] H Q := .inr ⟨k, rfl, q⟩
theorem rd_max2 {j : Int} (q : Q (.int (max i j)) H) : rMax2 [.int i, .int j] H Q := ⟨i, j, rfl, by
  have e : (if j > i then j else i) = max i j := by split <;> omega
  rw [e]
  exact q⟩
theorem rd_min2 {j : Int} (q : Q (.int (min i j)) H) : rMin2 [.int i, .int j] H Q := ⟨i, j, rfl, by
  have e : (if j < i then j else i) = min i j := by split <;> omega
  rw [e]
  exact q⟩
theorem rd_all {bs : List Bool} (h : RL K RB H v bs) (q : Q (.bl (bs.all id)) H) : rAll K [v] H Q := @NI.run _ (by exact NI.carry : NI.Carry (by
  obtain ⟨p, vs, rfl, hs, hr, hz⟩ := h
  rw [hr.of_bls] at hs
  exact ⟨p, bs, rfl, hs, q⟩
))
theorem rd_any {bs : List Bool} (h : RL K RB H v bs) (q : Q (.bl (bs.any id)) H) : rAny K [v] H Q := @NI.run _ (by exact NI.carry : NI.Carry (by
  obtain ⟨p, vs, rfl, hs, hr, hz⟩ := h
  rw [hr.of_bls] at hs
  exact ⟨p, bs, rfl, hs, q⟩
))
theorem rd_gcd {j : Int} (q : Q (.int ((Nat.gcd i.natAbs j.natAbs : Nat) : Int)) H) : rGcd [.int i, .int j] H Q := ⟨i, j, rfl, q⟩
end
theorem RP.at {K : PySem.W.Frag} {α β : Type} {R : Rl α} {S : Rl β} {H : Hp} {p : Addr} {x y : V} {a : α} {b : β} (h : H p = some (.tup [x, y])) (h1 : R H x a) (h2 : S H y b) : RP K R S H (.ref p) (a, b) := ⟨p, x, y, rfl, .inl (.inl h), h1, h2⟩
theorem RT.at {K : PySem.W.Frag} {α : Type} {R : Rl α} {H : Hp} {p : Addr} {vs : List V} {as : List α} (h : H p = some (.tup vs)) (hr : RAll R H vs as) (hz : vs.length ≤ sizeLine) : RT K R H (.ref p) as := ⟨p, vs, rfl, .inl (.inl h), hr, hz⟩
theorem RL.at {K : PySem.W.Frag} {α : Type} {R : Rl α} {H : Hp} {p : Addr} {vs : List V} {as : List α} (h : H p = some (.lst vs)) (hr : RAll R H vs as) (hz : vs.length ≤ sizeLine) : RL K R H (.ref p) as := ⟨p, vs, rfl, .inl (.inl h), hr, hz⟩
end Wo
end
section
namespace Wo
open PySem PySem.Spec PyProof.Rows L2
def HasTy (K : PySem.W.Frag) (H : Hp) (x : V) (t : Value) : Prop := TyX K H x t ∨ ∃ a C dx vs, x = .ref a ∧ t = .ref C ∧ SlX.Slt H a C dx vs ∧ SlX.SCls K C ∧ SlX.SIsi K C
def rIsiA (K : PySem.W.Frag) : List V → Hp → VK → Prop := fun xs H Q => ∃ (x c : V) (t u : Value) (b : Bool), xs = [x, c] ∧ ClsV c u ∧ HasTy K H x t ∧ PySem.W.kitOne K t u = some b ∧ Q (.bl b) H
theorem isi {X : Cx} : CallR X (.builtin "isinstance") (rIsiA X.K) := @NI.run _ (by exact NI.carry : NI.Carry (by
  intro pins s σ H xs us Q I r h
  obtain ⟨x, c, t, u, b, rfl, k, ty, e, q⟩ := h
  rcases ty with ty | ⟨a, C, dx, vs, rfl, rfl, hs, hc, hi⟩
  · exact call_isi pins s σ H _ us Q I r ⟨x, c, t, u, b, rfl, k, ty, e, q⟩
  · refine SlX.call_isiSl u pins s σ H _ us Q I r ⟨a, C, dx, vs, c, b, rfl, ?_, fun w r => k.eq r, hs, hc, hi, e, q⟩
    cases k with
    | ty n => exact (rfl : Value.type n = Value.type n)
    | own C => exact (rfl : Value.ref C = Value.ref C)
))
section
variable {K : PySem.W.Frag} {H : Hp} {Q : VK} {v x y : V} {C D : Addr} {f0 f1 : Str} {fi : Addr} {b : Bool} {T : String}
theorem rd_isi {t u : Value} {c : V} (ty : HasTy K H v t) (k : ClsV c u) (e : PySem.W.kitOne K t u = some b) (q : Q (.bl b) H) : rIsiA K [v, c] H Q := ⟨v, c, t, u, b, rfl, k, ty, e, q⟩
theorem HasTy.ob (T : Sl2 K C f0 f1 fi) (h : Ob2 C H v x y) : HasTy K H v (.ref C) := @NI.run _ (by exact NI.carry : NI.Carry (by
  obtain ⟨a, dx, e, s⟩ := h
  exact .inr ⟨a, C, dx, _, e, rfl, s, T.cl, T.si⟩
))
theorem HasTy.int {i : Int} : HasTy K H (.int i) (.type "int") := .inl (.base (.int i))
theorem HasTy.bool {i : Bool} : HasTy K H (.bl i) (.type "bool") := .inl (.base (.bl i))
theorem HasTy.str {i : Str} : HasTy K H (.str i) (.type "str") := .inl (.base (.str i))
theorem HasTy.none : HasTy K H .non (.type "NoneType") := .inl (.base .non)
end
def CDivA (i j : Int) : Prop := j ≠ 0 ∧ (j.natAbs.log2 < 9000 ∨ i.natAbs.log2 < 13530)
theorem noPylong_near {x y : Int} (h : x.natAbs.log2 < 13530) : Builtin.divisionGoesByPylong x y = false := @NI.run _ (by exact NI.carry : NI.Carry (by
  have kx : (if x == 0 then 0 else x.natAbs.log2 / 30 + 1) ≤ 451 := by
    by_cases hx : (x == 0) = true
    · rw [if_pos hx]; exact Nat.zero_le _
    · rw [if_neg hx]; omega
  show (decide ((if y == 0 then 0 else y.natAbs.log2 / 30 + 1) > 300) && decide ((if x == 0 then 0 else x.natAbs.log2 / 30 + 1) > (if y == 0 then 0 else y.natAbs.log2 / 30 + 1) + 150)) = false
  generalize (if x == 0 then 0 else x.natAbs.log2 / 30 + 1) = dx at *
  generalize (if y == 0 then 0 else y.natAbs.log2 / 30 + 1) = dy at *
  by_cases h1 : dy > 300
  · rw [decide_eq_false (p := dx > dy + 150) (by omega), Bool.and_false]
  · rw [decide_eq_false h1, Bool.false_and]
))
theorem op_fdivA {X : Cx} : OpR X (binaryOp .FloorDiv) (rI CDivA fun i j => .int (i.fdiv j)) := opI fun i j _ _ _ _ _ hc q => floordiv_int hc.1 q (.inl (hc.2.elim PyProof.noPylong_of_log2 noPylong_near))
theorem div_of {i j : Int} {b : Nat} (h : j ≠ 0) (hb : j.natAbs < 2 ^ b) (h0 : 0 < b := by decide) (h9 : b ≤ 9000 := by decide) : CDivA i j := ⟨h, .inl (Nat.lt_of_lt_of_le (PySem.Flt.log2_lt_of h0 hb) h9)⟩
theorem div_near {i j : Int} {b : Nat} (h : j ≠ 0) (hb : i.natAbs < 2 ^ b) (h0 : 0 < b := by decide) (h9 : b ≤ 13530 := by decide) : CDivA i j := ⟨h, .inr (Nat.lt_of_lt_of_le (PySem.Flt.log2_lt_of h0 hb) h9)⟩
theorem mul_of {i j : Int} {a b : Nat} (ha : i.natAbs < 2 ^ a) (hb : j.natAbs < 2 ^ b) (h0 : 0 < a := by decide) (h1 : 0 < b := by decide) (h : a + b ≤ 1000000 := by decide) : CMulW i j := wide_mul ha hb h0 h1 h
theorem ctor2 {P : Program} {w : World} {K : PySem.W.Frag} {mg : Str → Option Value} {base : Heap} {k : Nat} {x f0 f1 : Str} {C fi : Addr} (hm : mg x = some (.ref C)) (T : Sl2 K C f0 f1 fi) (F : FnR P w K mg base (CXW P w) k fi (sp_init2 C)) :
    Ctor P w K mg base k x (sp2 fun a b H Q _ => ∀ v H', Same H H' → Ob2 C H' v b a → Q v H') := @NI.run _ (by exact NI.carry : NI.Carry (by
  refine ⟨C, fi, _, hm, T.make, F, fun vs H Q E h y dx h1 h2 h3 => ?_⟩
  obtain ⟨a, b, rfl, k⟩ := h
  refine ⟨_, a, b, rfl, y, dx, rfl, h3, upd_same, fun H' hs hk => ⟨rfl, k _ H' (fun c o e => ?_) ⟨y, dx, rfl, hs⟩⟩⟩
  have n1 := ne_of_none e h1
  have n2 := ne_of_none e h2
  exact hk c o (by rw [upd_ne n1, upd_ne n2]; exact e) n1 n2
))
end Wo
end
section
namespace Wo
open PySem
theorem gcd_sw (t b : Int) : b.gcd t = Nat.gcd t.natAbs b.natAbs := @NI.run _ (by exact NI.carry : NI.Carry (by
  rw [Int.gcd_comm]; rfl
))
theorem gcd_dl (t b : Int) : ((Nat.gcd t.natAbs b.natAbs : Nat) : Int) ∣ t := Int.gcd_dvd_left t b
theorem gcd_dr (t b : Int) : ((Nat.gcd t.natAbs b.natAbs : Nat) : Int) ∣ b := Int.gcd_dvd_right t b
theorem gcd_ps {t b : Int} (h : b ≠ 0) : 0 < Nat.gcd t.natAbs b.natAbs := Nat.gcd_pos_of_pos_right _ (by omega)
theorem gcd_le {t b : Int} (h : b ≠ 0) : Nat.gcd t.natAbs b.natAbs ≤ b.natAbs := Nat.gcd_le_right _ (by omega)
theorem low_num {t b : Int} (hb : 0 < b) : (Rat.divInt t b).num = t.fdiv ((Nat.gcd t.natAbs b.natAbs : Nat) : Int) := @NI.run _ (by exact NI.carry : NI.Carry (by
  rw [Rat.num_divInt, gcd_sw, Int.fdiv_eq_ediv_of_dvd (gcd_dl t b), Int.sign_eq_one_of_pos hb, Int.one_mul]
))
theorem low_numN {t b : Int} (hb : b < 0) : (Rat.divInt t b).num = t.fdiv (-((Nat.gcd t.natAbs b.natAbs : Nat) : Int)) := @NI.run _ (by exact NI.carry : NI.Carry (by
  have hg := gcd_ps (t := t) (b := b) (by omega)
  rw [Rat.num_divInt, gcd_sw, Int.fdiv_neg (by omega), if_pos (gcd_dl t b), Int.fdiv_eq_ediv_of_dvd (gcd_dl t b), Int.sign_eq_neg_one_of_neg hb, ← Int.neg_ediv_of_dvd (gcd_dl t b)]
  congr 1
  omega
))
theorem low_den {t b : Int} (hb : 0 < b) : ((Rat.divInt t b).den : Int) = b.fdiv ((Nat.gcd t.natAbs b.natAbs : Nat) : Int) := @NI.run _ (by exact NI.carry : NI.Carry (by
  rw [Rat.den_divInt, gcd_sw, Int.fdiv_eq_ediv_of_dvd (gcd_dr t b), if_neg (by omega), Int.natCast_ediv]
  congr 1
  omega
))
theorem low_denN {t b : Int} (hb : b < 0) : ((Rat.divInt t b).den : Int) = b.fdiv (-((Nat.gcd t.natAbs b.natAbs : Nat) : Int)) := @NI.run _ (by exact NI.carry : NI.Carry (by
  have hg := gcd_ps (t := t) (b := b) (by omega)
  rw [Rat.den_divInt, gcd_sw, Int.fdiv_neg (by omega), if_pos (gcd_dr t b), Int.fdiv_eq_ediv_of_dvd (gcd_dr t b), if_neg (by omega), Int.natCast_ediv, ← Int.neg_ediv_of_dvd (gcd_dr t b)]
  congr 1
  omega
))
theorem gcd_lt2 {t b : Int} {n : Nat} (h : b ≠ 0) (hs : b.natAbs < 2 ^ n) : (((Nat.gcd t.natAbs b.natAbs : Nat) : Int)).natAbs < 2 ^ n ∧ (-((Nat.gcd t.natAbs b.natAbs : Nat) : Int)).natAbs < 2 ^ n ∧ ((Nat.gcd t.natAbs b.natAbs : Nat) : Int) ≠ 0 := @NI.run _ (by exact NI.carry : NI.Carry (by
  have h1 := gcd_le (t := t) h
  have h2 := gcd_ps (t := t) h
  generalize Nat.gcd t.natAbs b.natAbs = g at *
  exact ⟨by omega, by omega, by omega⟩
))
end Wo
end
section
namespace Wo
open PySem PySem.Spec PyProof.Rows L2
section
open PySem.SeqAt
open AutoSeq1 (wpAny_loadPart')
open MeetsSeq MeetsSeq2 MeetsSeq3 SeqRoads2
variable {prog : Program} {w : World} {A : Around} {R : Result → Shared → Prop}
def ListB (prog : Program) (w : World) (A : Around) (R : Result → Shared → Prop) (no : Bool) (l b : Addr) (N : Nat) (I : Nat → Shared → Prop) : Prop :=
  ∀ i s, I i s → ∃ (items items2 : Array Value) (n n2 : Nat) (sl sl2 : Array (Option Value)), s.heap.get? l = some { cls := .type "list", data := .seq items n, slots := sl } ∧ s.heap.get? b = some { cls := .type "list", data := .seq items2 n2, slots := sl2 } ∧ items.size = N ∧ items2.size = N ∧
    ∀ (h1 : i < items.size) (h2 : i < items2.size), wpAny (model prog w) A.in1 (eqBool items[i] items2[i]) (fun r s' => if r = true then I (i + 1) s' else (I i s' ∧ R (.ok (.ret (.bool no))) s')) (fun e s' => R (.error e) s') s
theorem loopB (code : Nat) (no : Bool) (hc : (code = 2 ∧ no = false) ∨ (code = 3 ∧ no = true)) (l b : Addr) (N : Nat) (I : Nat → Shared → Prop) (hl : ListB prog w A R no l b N I)
    (fin : ∀ s, I N s → R (.ok (.ret (.bool (!no)))) s) (k : Nat) :
    ∀ i : Nat, N - i = k → i ≤ N → ∀ s, I i s →
      wpAny (model prog w) A.in1 (Builtin.«list.__eq__.loop» ⟨[.ref l, .ref b, rawInt i, rawInt code], []⟩) (GQ.FinOf prog w A R) (fun e s' => R (.error e) s') s := @NI.run _ (by exact NI.carry : NI.Carry (by
  induction k with
  | zero =>
    intro i hk hi s h
    obtain ⟨items, items2, n, n2, sl, sl2, hl1, hb1, hs1, hs2, _⟩ := hl _ _ h
    have hi' : i = N := by omega
    have hR : R (.ok (.ret (.bool (!no)))) s := fin s (hi' ▸ h)
    have hi1 : items[((i : Nat) : Int).toNat]? = none := by simp; omega
    have hi2 : items2[((i : Nat) : Int).toNat]? = none := by simp; omega
    obtain ⟨hp, g, d, tk, os⟩ := s
    rcases hc with ⟨rfl, rfl⟩ | ⟨rfl, rfl⟩
    · wp_walk using wpAny_loadPart' hl1, wpAny_loadPart' hb1
      rw [hi1, hi2]
      wp_walk using wpAny_loadPart' hl1, wpAny_loadPart' hb1
      show R (.ok (.ret (.bool (items.size == items2.size)))) _
      rw [hs1, hs2]
      simpa using hR
    · wp_walk using wpAny_loadPart' hl1, wpAny_loadPart' hb1
      rw [hi1, hi2]
      wp_walk using wpAny_loadPart' hl1, wpAny_loadPart' hb1
      show R (.ok (.ret (.bool (items.size != items2.size)))) _
      rw [hs1, hs2]
      simpa using hR
  | succ k ih =>
    intro i hk hi s h
    obtain ⟨items, items2, n, n2, sl, sl2, hl1, hb1, hs1, hs2, turn⟩ := hl _ _ h
    have hlt : i < items.size := by omega
    have hlt2 : i < items2.size := by omega
    have ht := turn hlt hlt2
    have hi1 : items[((i : Nat) : Int).toNat]? = some items[i] := by simp [hlt]
    have hi2 : items2[((i : Nat) : Int).toNat]? = some items2[i] := by simp [hlt2]
    have hc' : ((i : Int) + 1) = ((i + 1 : Nat) : Int) := by omega
    obtain ⟨hp, g, d, tk, os⟩ := s
    rcases hc with ⟨rfl, rfl⟩ | ⟨rfl, rfl⟩
    all_goals
      wp_walk using wpAny_loadPart' hl1, wpAny_loadPart' hb1
      rw [hi1, hi2]
      refine wpAny_bind (wpAny_mono ht (fun r s2 h2 => ?_) fun _ _ x => x)
      cases r with
      | true =>
        have hrec := ih (i + 1) (by omega) (by omega) s2 h2
        obtain ⟨hp2, g2, d2, tk2, os2⟩ := s2
        wp_walk
        rw [hc']
        exact ⟨plainId_quiet plain_eq_loop _, codeAny_builtin entry_eq_loop (by
          rw [Around.under_plainId plain_eq_loop _]
          exact hrec)⟩
      | false =>
        obtain ⟨h2, hR⟩ := h2
        obtain ⟨items3, items4, n3, n4, sl3, sl4, hl3, hb3, hs3, hs4, _⟩ := hl _ _ h2
        have hj1 : items3[((i : Nat) : Int).toNat]? = some (items3[i]'(by omega)) := by (simp <;> omega)
        have hj2 : items4[((i : Nat) : Int).toNat]? = some (items4[i]'(by omega)) := by (simp <;> omega)
        obtain ⟨hp2, g2, d2, tk2, os2⟩ := s2
        wp_walk using wpAny_loadPart' hl3, wpAny_loadPart' hb3
        rw [hj1, hj2]
        wp_walk
        exact hR
))
theorem list_eqB (l b : Addr) (N : Nat) (I : Nat → Shared → Prop) (hl : ListB prog w A R false l b N I)
    (fin : ∀ s, I N s → R (.ok (.ret (.bool true))) s) {s : Shared} (h : I 0 s) :
    wpAny (model prog w) A.in1 (Builtin.«list.__eq__» ⟨[.ref l, .ref b], []⟩) (GQ.FinOf prog w A R) (fun e s' => R (.error e) s') s := @NI.run _ (by exact NI.carry : NI.Carry (by
  obtain ⟨items, items2, n, n2, sl, sl2, hl1, hb1, hs1, hs2, _⟩ := hl _ _ h
  have hrec := loopB (A := A) (R := R) 2 false (.inl ⟨rfl, rfl⟩) l b N I hl fin _ 0 rfl (Nat.zero_le _) s h
  obtain ⟨hp, g, d, tk, os⟩ := s
  have f3 := AutoSeq1.sub_list_list
  have hne : ¬ (items.size != items2.size) = true := by simp [hs1, hs2]
  wp_walk using wpAny_loadPart' hl1, wpAny_loadPart' hb1
  exact ⟨plainId_quiet plain_eq_loop _, codeAny_builtin entry_eq_loop (by
    rw [Around.under_plainId plain_eq_loop _]
    exact hrec)⟩
))
theorem list_neB (l b : Addr) (N : Nat) (I : Nat → Shared → Prop) (hl : ListB prog w A R true l b N I)
    (fin : ∀ s, I N s → R (.ok (.ret (.bool false))) s) {s : Shared} (h : I 0 s) :
    wpAny (model prog w) A.in1 (Builtin.«list.__ne__» ⟨[.ref l, .ref b], []⟩) (GQ.FinOf prog w A R) (fun e s' => R (.error e) s') s := @NI.run _ (by exact NI.carry : NI.Carry (by
  obtain ⟨items, items2, n, n2, sl, sl2, hl1, hb1, hs1, hs2, _⟩ := hl _ _ h
  have hrec := loopB (A := A) (R := R) 3 true (.inr ⟨rfl, rfl⟩) l b N I hl fin _ 0 rfl (Nat.zero_le _) s h
  obtain ⟨hp, g, d, tk, os⟩ := s
  have f3 := AutoSeq1.sub_list_list
  have hne : ¬ (items.size != items2.size) = true := by simp [hs1, hs2]
  wp_walk using wpAny_loadPart' hl1, wpAny_loadPart' hb1
  exact ⟨plainId_quiet plain_eq_loop _, codeAny_builtin entry_eq_loop (by
    rw [Around.under_plainId plain_eq_loop _]
    exact hrec)⟩
))
theorem tuple_eqB (l b : Addr) (items items2 : Array Value) (n n2 : Nat) (dd dd2 : Option Addr) (sl sl2 : Array (Option Value)) (I : Nat → Shared → Prop)
    (turn : ∀ i (h1 : i < items.size) (h2 : i < items2.size) s, I i s → wpAny (model prog w) A.in1 (eqBool items[i] items2[i]) (fun r s' => if r = true then I (i + 1) s' else R (.ok (.ret (.bool false))) s') (fun e s' => R (.error e) s') s)
    (fin : ∀ s, I (min items.size items2.size) s → R (.ok (.ret (.bool (items.size == items2.size)))) s) {s : Shared} (hl1 : s.heap.get? l = some { cls := .type "tuple", dict := dd, data := .seq items n, slots := sl }) (hb1 : s.heap.get? b = some { cls := .type "tuple", dict := dd2, data := .seq items2 n2, slots := sl2 }) (h : I 0 s) :
    wpAny (model prog w) A.in1 (Builtin.«tuple.__eq__» ⟨[.ref l, .ref b], []⟩) (GQ.FinOf prog w A R) (fun e s' => R (.error e) s') s := @NI.run _ (by exact NI.carry : NI.Carry (by
  have f2 := AutoSeq1.sub_tuple_tuple
  have hZ : (items.toList.zip items2.toList).length = min items.size items2.size := by simp
  have h0 := h
  obtain ⟨hp, g, d, tk, os⟩ := s
  wp_walk using wpAny_loadPart' hl1, wpAny_loadPart' hb1, wpAny_forIn_list _ (fun rest b s' => b.1 = none ∧ ∃ i, rest = (items.toList.zip items2.toList).drop i ∧ i ≤ min items.size items2.size ∧ I i s') _
  case turn =>
    rintro ⟨y, x⟩ rest b s' ⟨hb', i, hz, hi, hI⟩
    have hlt : i < (items.toList.zip items2.toList).length := by
      rcases Nat.lt_or_ge i (items.toList.zip items2.toList).length with h' | h'
      · exact h'
      · rw [List.drop_of_length_le h'] at hz; cases hz
    have h1 : i < items.size := by omega
    have h2 : i < items2.size := by omega
    rw [List.drop_eq_getElem_cons hlt] at hz
    injection hz with hyx hrest
    have hy : y = items[i] := by have := congrArg Prod.fst hyx; simpa using this
    have hx : x = items2[i] := by have := congrArg Prod.snd hyx; simpa using this
    subst hy hx
    refine wpAny_bind (wpAny_mono (turn i h1 h2 s' hI) (fun r s2 q2 => ?_) fun _ _ x => x)
    cases r with
    | true =>
      wp_walk
      exact ⟨rfl, i + 1, hrest, by omega, q2⟩
    | false =>
      wp_walk
      exact q2
  case fin =>
    rintro ⟨b1, b2⟩ s' ⟨hb', i, hz, hi, hI⟩
    simp only at hb'
    subst hb'
    have hge : min items.size items2.size ≤ i := by
      rcases Nat.lt_or_ge i (items.toList.zip items2.toList).length with h' | h'
      · rw [List.drop_eq_getElem_cons h'] at hz; cases hz
      · omega
    have hi' : i = min items.size items2.size := by omega
    have hR := fin s' (hi' ▸ hI)
    wp_walk
    simpa [Builtin.Tuple.tupleCompareSizes] using hR
  case h =>
    exact ⟨rfl, 0, rfl, Nat.zero_le _, h0⟩
))
theorem tuple_neB (l b : Addr) (items items2 : Array Value) (n n2 : Nat) (dd dd2 : Option Addr) (sl sl2 : Array (Option Value)) (I : Nat → Shared → Prop)
    (turn : ∀ i (h1 : i < items.size) (h2 : i < items2.size) s, I i s → wpAny (model prog w) A.in1 (eqBool items[i] items2[i]) (fun r s' => if r = true then I (i + 1) s' else R (.ok (.ret (.bool true))) s') (fun e s' => R (.error e) s') s)
    (fin : ∀ s, I (min items.size items2.size) s → R (.ok (.ret (.bool (items.size != items2.size)))) s) {s : Shared} (hl1 : s.heap.get? l = some { cls := .type "tuple", dict := dd, data := .seq items n, slots := sl }) (hb1 : s.heap.get? b = some { cls := .type "tuple", dict := dd2, data := .seq items2 n2, slots := sl2 }) (h : I 0 s) :
    wpAny (model prog w) A.in1 (Builtin.«tuple.__ne__» ⟨[.ref l, .ref b], []⟩) (GQ.FinOf prog w A R) (fun e s' => R (.error e) s') s := @NI.run _ (by exact NI.carry : NI.Carry (by
  have f2 := AutoSeq1.sub_tuple_tuple
  have hZ : (items.toList.zip items2.toList).length = min items.size items2.size := by simp
  have h0 := h
  obtain ⟨hp, g, d, tk, os⟩ := s
  wp_walk using wpAny_loadPart' hl1, wpAny_loadPart' hb1, wpAny_forIn_list _ (fun rest b s' => b.1 = none ∧ ∃ i, rest = (items.toList.zip items2.toList).drop i ∧ i ≤ min items.size items2.size ∧ I i s') _
  case turn =>
    rintro ⟨y, x⟩ rest b s' ⟨hb', i, hz, hi, hI⟩
    have hlt : i < (items.toList.zip items2.toList).length := by
      rcases Nat.lt_or_ge i (items.toList.zip items2.toList).length with h' | h'
      · exact h'
      · rw [List.drop_of_length_le h'] at hz; cases hz
    have h1 : i < items.size := by omega
    have h2 : i < items2.size := by omega
    rw [List.drop_eq_getElem_cons hlt] at hz
    injection hz with hyx hrest
    have hy : y = items[i] := by have := congrArg Prod.fst hyx; simpa using this
    have hx : x = items2[i] := by have := congrArg Prod.snd hyx; simpa using this
    subst hy hx
    refine wpAny_bind (wpAny_mono (turn i h1 h2 s' hI) (fun r s2 q2 => ?_) fun _ _ x => x)
    cases r with
    | true =>
      wp_walk
      exact ⟨rfl, i + 1, hrest, by omega, q2⟩
    | false =>
      wp_walk
      exact q2
  case fin =>
    rintro ⟨b1, b2⟩ s' ⟨hb', i, hz, hi, hI⟩
    simp only at hb'
    subst hb'
    have hge : min items.size items2.size ≤ i := by
      rcases Nat.lt_or_ge i (items.toList.zip items2.toList).length with h' | h'
      · rw [List.drop_eq_getElem_cons h'] at hz; cases hz
      · omega
    have hi' : i = min items.size items2.size := by omega
    have hR := fin s' (hi' ▸ hI)
    wp_walk
    simpa [Builtin.Tuple.tupleCompareSizes] using hR
  case h =>
    exact ⟨rfl, 0, rfl, Nat.zero_le _, h0⟩
))
end
end Wo
end
section
namespace Wo
open PySem PySem.Spec PyProof.Rows L2
def EqB (X : Cx) (n : Nat) {α : Type} (R : Rl α) : Prop :=
  ∀ (A : Around) (pins : List (Addr × Obj)) (s : Shared) (σ : L2.St) (H : Hp) (x y : V) (u v : Value) (a b : α), Sub X n A → Inv X pins σ H s → RelV x u → RelV y v → R H x a → R H y b →
    wpAny (model X.prog X.w) A (eqBool u v) (fun r s' => (r = true ↔ a = b) ∧ ∃ H', Inv X pins σ H' s' ∧ Same H H') X.xe s
def RcB (X : Cx) (n : Nat) (op : CmpOp) (no : Bool) {α : Type} (R : Rl α) : Prop :=
  ∀ (A : Around) (pins : List (Addr × Obj)) (s : Shared) (σ : L2.St) (H : Hp) (x y : V) (u v : Value) (a b : α), Sub X n A → Inv X pins σ H s → RelV x u → RelV y v → R H x a → R H y b →
    wpAny (model X.prog X.w) A (richCompare op u v) (fun r s' => ∃ k, r = .bool k ∧ (k = (!no) ↔ a = b) ∧ ∃ H', Inv X pins σ H' s' ∧ Same H H') X.xe s
section
open PySem.SeqAt
open AutoSeq1 (wpAny_loadPart')
open MeetsSeq MeetsSeq2 MeetsSeq3 SeqRoads2
variable {prog : Program} {w : World} {A : Around} {R : Result → Shared → Prop}
theorem list_eqL (l b : Addr) (items items2 : Array Value) (n n2 : Nat) (sl sl2 : Array (Option Value)) (hd : (items.size != items2.size) = true) {s : Shared} (hl1 : s.heap.get? l = some { cls := .type "list", data := .seq items n, slots := sl }) (hb1 : s.heap.get? b = some { cls := .type "list", data := .seq items2 n2, slots := sl2 })
    (h : R (.ok (.ret (.bool false))) s) : wpAny (model prog w) A.in1 (Builtin.«list.__eq__» ⟨[.ref l, .ref b], []⟩) (GQ.FinOf prog w A R) (fun e s' => R (.error e) s') s := @NI.run _ (by exact NI.carry : NI.Carry (by
  obtain ⟨hp, g, d, tk, os⟩ := s
  have f3 := AutoSeq1.sub_list_list
  wp_walk using wpAny_loadPart' hl1, wpAny_loadPart' hb1
  exact h
))
theorem list_neL (l b : Addr) (items items2 : Array Value) (n n2 : Nat) (sl sl2 : Array (Option Value)) (hd : (items.size != items2.size) = true) {s : Shared} (hl1 : s.heap.get? l = some { cls := .type "list", data := .seq items n, slots := sl }) (hb1 : s.heap.get? b = some { cls := .type "list", data := .seq items2 n2, slots := sl2 })
    (h : R (.ok (.ret (.bool true))) s) : wpAny (model prog w) A.in1 (Builtin.«list.__ne__» ⟨[.ref l, .ref b], []⟩) (GQ.FinOf prog w A R) (fun e s' => R (.error e) s') s := @NI.run _ (by exact NI.carry : NI.Carry (by
  obtain ⟨hp, g, d, tk, os⟩ := s
  have f3 := AutoSeq1.sub_list_list
  wp_walk using wpAny_loadPart' hl1, wpAny_loadPart' hb1
  exact h
))
end
section
variable {X : Cx} {pins : List (Addr × Obj)} {σ : L2.St} {H : Hp} {s : Shared} {a : Addr} {xs : List V}
theorem _root_.L2.Inv.plist (I : Inv X pins σ H s) (h : SqL X.K H a xs) : ∃ (its : List Value) (n : Nat) (sl : Array (Option Value)), Vals xs its ∧ s.heap.get? a = some { cls := .type "list", data := .seq its.toArray n, slots := sl } := @NI.run _ (by exact NI.carry : NI.Carry (by
  obtain ⟨its, r, ⟨o, n, e, h1, h2, h3⟩, _⟩ := I.list h
  obtain ⟨cls, dict, data, sl⟩ := o
  simp only at h1 h2 h3
  subst h1 h2 h3
  exact ⟨its, n, sl, r, e⟩
))
end
def FnRl (X : Cx) {α : Type} (R : Rl α) : Prop := ∀ (pins : List (Addr × Obj)) (s : Shared) (σ : L2.St) (H : Hp) (x : V) (a b : α), Inv X pins σ H s → R H x a → R H x b → a = b
section
variable {X : Cx} {n m : Nat} {α β : Type} {R : Rl α} {S : Rl β}
theorem EqB.mono (h : EqB X n R) (hn : n ≤ m) : EqB X m R := fun A pins s σ H x y u v a b sb => h A pins s σ H x y u v a b (sb.mono hn)
theorem fn_int : FnRl X RI := fun _ _ _ _ _ _ _ _ h1 h2 => V.int.inj (h1.symm.trans h2)
theorem fn_bool : FnRl X RB := fun _ _ _ _ _ _ _ _ h1 h2 => V.bl.inj (h1.symm.trans h2)
theorem fn_str : FnRl X RS := fun _ _ _ _ _ _ _ _ h1 h2 => V.str.inj (h1.symm.trans h2)
theorem fn_rat {C : Addr} : FnRl X (RQ C) := fun pins s σ H x a b I h1 h2 => by
  obtain ⟨p, dx, rfl, s1⟩ := h1
  obtain ⟨q, dy, e, s2⟩ := h2
  cases e
  obtain ⟨_, sl, _, e1, r1, _⟩ := SlX.slt_at I s1
  obtain ⟨_, sl2, _, e2, r2, _⟩ := SlX.slt_at I s2
  rw [e1] at e2
  cases e2
  obtain ⟨u, hu, ru⟩ := r1 0 _ rfl
  obtain ⟨u', hu', ru'⟩ := r2 0 _ rfl
  obtain ⟨w, hw, rw_⟩ := r1 1 _ rfl
  obtain ⟨w', hw', rw'⟩ := r2 1 _ rfl
  rw [hu] at hu'
  cases hu'
  rw [hw] at hw'
  cases hw'
  have e1 := V.int.inj (ru.inj ru')
  have e2 := V.int.inj (rw_.inj rw')
  exact Rat.ext e2 (by omega)
theorem eqB_flat (hf : ∀ H x a, R H x a → flatV x = true) (he : ∀ H x y a b, R H x a → R H y b → (eqV x y = true ↔ a = b)) : EqB X 0 R := @NI.run _ (by exact NI.carry : NI.Carry (by
  intro A pins s σ H x y u v a b sb I rx ry h1 h2
  exact eqAt_V (A := A) (s := s) rx ry (hf H x a h1) (hf H y b h2) X.prog X.w X.xe _ ⟨he H x y a b h1 h2, H, I, Same.refl H⟩
))
theorem eqB_int : EqB X 0 RI := eqB_flat (fun H x a h => by rw [show x = _ from h]; rfl) fun H x y a b h1 h2 => by
  rw [show x = _ from h1, show y = _ from h2]
  exact beq_iff_eq
theorem eqB_bool : EqB X 0 RB := eqB_flat (fun H x a h => by rw [show x = _ from h]; rfl) fun H x y a b h1 h2 => by
  rw [show x = _ from h1, show y = _ from h2]
  exact beq_iff_eq
theorem eqB_str : EqB X 0 RS := eqB_flat (fun H x a h => by rw [show x = _ from h]; rfl) fun H x y a b h1 h2 => by
  rw [show x = _ from h1, show y = _ from h2]
  exact beq_iff_eq
theorem eqB_refs (hr : ∀ H x a, R H x a → ∃ p, x = .ref p) (hf : FnRl X R) (h : RcB X n .Eq false R) : EqB X n R := @NI.run _ (by exact NI.carry : NI.Carry (by
  intro A pins s σ H x y u v a b sb I rx ry h1 h2
  obtain ⟨p, rfl⟩ := hr H x a h1
  obtain ⟨q, rfl⟩ := hr H y b h2
  cases rx
  cases ry
  by_cases hab : p = q
  · subst hab
    have e := hf pins s σ H _ _ _ I h1 h2
    exact SeqAt.EqAt.same (A := A) (s := s) (.ref p) X.prog X.w X.xe _ ⟨⟨fun _ => e, fun _ => rfl⟩, H, I, Same.refl H⟩
  · refine GQ.eqBool_refG hab (wpAny_mono (h A pins s σ H (.ref p) (.ref q) _ _ a b sb I rfl rfl h1 h2) (fun r s' z => ?_) fun _ _ x => x)
    obtain ⟨k, e, hk, H', I', e'⟩ := z
    exact ⟨k, e, hk, H', I', e'⟩
))
theorem turnB {as bs : List α} {pins : List (Addr × Obj)} {σ : L2.St} {H : Hp} {xs ys : List V} {its its2 : List Value} [Up R] (h : EqB X n R) {A : Around} (sb : Sub X (n + 1) A) (r1 : RAll R H xs as) (r2 : RAll R H ys bs) (r : Vals xs its) (r' : Vals ys its2)
    (i : Nat) (h1 : i < its.toArray.size) (h2 : i < its2.toArray.size) (s' : Shared) (l : ∃ H', Inv X pins σ H' s' ∧ Same H H') :
    wpAny (model X.prog X.w) A.in1 (eqBool its.toArray[i] its2.toArray[i]) (fun r s2 => (r = true ↔ as[i]? = bs[i]?) ∧ ∃ H', Inv X pins σ H' s2 ∧ Same H H') X.xe s' := @NI.run _ (by exact NI.carry : NI.Carry (by
  obtain ⟨H1, I1, e1⟩ := l
  have g1 : its[i]? = some its.toArray[i] := by
    have h1' : i < its.length := by simpa using h1
    rw [List.getElem?_eq_getElem h1'] <;> simp
  have g2 : its2[i]? = some its2.toArray[i] := by
    have h2' : i < its2.length := by simpa using h2
    rw [List.getElem?_eq_getElem h2'] <;> simp
  have k1 : i < xs.length := by rw [r.length]; simpa using h1
  have k2 : i < ys.length := by rw [r'.length]; simpa using h2
  obtain ⟨u, hu, ru⟩ := r.get (List.getElem?_eq_getElem k1)
  obtain ⟨v, hv, rv⟩ := r'.get (List.getElem?_eq_getElem k2)
  rw [g1] at hu
  rw [g2] at hv
  rw [Option.some.inj hu, Option.some.inj hv]
  obtain ⟨a, ha, ra⟩ := r1.get (List.getElem?_eq_getElem k1)
  obtain ⟨b, hb, rb⟩ := r2.get (List.getElem?_eq_getElem k2)
  refine wpAny_mono (h A.in1 pins s' σ H1 _ _ u v a b sb.in1 I1 ru rv (Up.up e1 ra) (Up.up e1 rb)) (fun r s2 q => ?_) fun _ _ x => x
  obtain ⟨hr, H2, I2, e2⟩ := q
  refine ⟨?_, H2, I2, e1.trans e2⟩
  rw [hr, ha, hb]
  exact ⟨fun z => congrArg _ z, fun z => Option.some.inj z⟩
))
theorem take_succ_eq {as bs : List α} {i : Nat} (h : as.take i = bs.take i) (e : as[i]? = bs[i]?) : as.take (i + 1) = bs.take (i + 1) := @NI.run _ (by exact NI.carry : NI.Carry (by
  rw [List.take_succ, List.take_succ, h, e]
))
theorem take_min_eq {as bs : List α} (h : as.take (min as.length bs.length) = bs.take (min as.length bs.length)) : as.length = bs.length ↔ as = bs := @NI.run _ (by exact NI.carry : NI.Carry (by
  constructor
  · intro e
    rw [e, Nat.min_self, List.take_of_length_le (by omega), List.take_of_length_le (by omega)] at h
    exact h
  · intro e
    rw [e]
))
theorem rcB_tup [Up R] (h : EqB X n R) : RcB X (n + 1) .Eq false (RT X.K R) := @NI.run _ (by exact NI.carry : NI.Carry (by
  intro A pins s σ H x y u v as bs sb I rx ry h1 h2
  obtain ⟨p, xs, rfl, sq1, r1, z1⟩ := h1
  obtain ⟨q, ys, rfl, sq2, r2, z2⟩ := h2
  cases rx
  cases ry
  obtain ⟨its, v1, e1, _⟩ := I.tuple sq1
  obtain ⟨its2, v2, e2, _⟩ := I.tuple sq2
  have l1 : its.toArray.size = as.length := by rw [List.size_toArray, ← v1.length, r1.len]
  have l2 : its2.toArray.size = bs.length := by rw [List.size_toArray, ← v2.length, r2.len]
  obtain ⟨⟨cls, dd, data, sl⟩, ho, hc, m1, hd⟩ := id e1
  obtain ⟨⟨cls2, dd2, data2, sl2⟩, ho2, hc2, m2, hd2⟩ := id e2
  simp only at hc hd hc2 hd2
  subst hc hd hc2 hd2
  refine wpAny_richCompare_same_room (op := .Eq) ⟨_, ho, rfl⟩ ⟨_, ho2, rfl⟩ F.slot_tuple_eq (GQ.call_here F.slot_tuple_eq ⟨_, ho, rfl⟩ F.entry_tuple_eq (F.args_tuple_eq_2 _ _) ?_) sb.room.units0
  refine tuple_eqB (R := wants (fun v s' => v ≠ .notImplemented ∧ ∃ k, v = .bool k ∧ (k = (!false) ↔ as = bs) ∧ ∃ H', Inv X pins σ H' s' ∧ Same H H') X.xe) p q its.toArray its2.toArray m1 m2 dd dd2 sl sl2 (fun i s' => as.take i = bs.take i ∧ ∃ H', Inv X pins σ H' s' ∧ Same H H') (fun i k1 k2 s' l => ?_) (fun s' l => ?_) ho ho2 ⟨rfl, H, I, Same.refl H⟩
  · refine wpAny_mono (turnB h sb r1 r2 v1 v2 i k1 k2 s' l.2) (fun r s2 z => ?_) fun _ _ x => x
    obtain ⟨hr, z⟩ := z
    cases r with
    | true => exact ⟨take_succ_eq l.1 (hr.mp rfl), z⟩
    | false =>
      refine ⟨(fun x => nomatch x), false, rfl, ⟨(fun x => nomatch x), fun e => ?_⟩, z⟩
      subst e
      exact absurd (hr.mpr rfl) Bool.false_ne_true
  · refine ⟨(fun x => nomatch x), _, rfl, ?_, l.2⟩
    rw [l1, l2] at l ⊢
    rw [← take_min_eq l.1]
    exact beq_iff_eq
))
theorem rcB_tupN [Up R] (h : EqB X n R) : RcB X (n + 1) .NotEq true (RT X.K R) := @NI.run _ (by exact NI.carry : NI.Carry (by
  intro A pins s σ H x y u v as bs sb I rx ry h1 h2
  obtain ⟨p, xs, rfl, sq1, r1, z1⟩ := h1
  obtain ⟨q, ys, rfl, sq2, r2, z2⟩ := h2
  cases rx
  cases ry
  obtain ⟨its, v1, e1, _⟩ := I.tuple sq1
  obtain ⟨its2, v2, e2, _⟩ := I.tuple sq2
  have l1 : its.toArray.size = as.length := by rw [List.size_toArray, ← v1.length, r1.len]
  have l2 : its2.toArray.size = bs.length := by rw [List.size_toArray, ← v2.length, r2.len]
  obtain ⟨⟨cls, dd, data, sl⟩, ho, hc, m1, hd⟩ := id e1
  obtain ⟨⟨cls2, dd2, data2, sl2⟩, ho2, hc2, m2, hd2⟩ := id e2
  simp only at hc hd hc2 hd2
  subst hc hd hc2 hd2
  refine wpAny_richCompare_same_room (op := .NotEq) ⟨_, ho, rfl⟩ ⟨_, ho2, rfl⟩ F.slot_tuple_ne (GQ.call_here F.slot_tuple_ne ⟨_, ho, rfl⟩ F.entry_tuple_ne (F.args_tuple_ne_2 _ _) ?_) sb.room.units0
  refine tuple_neB (R := wants (fun v s' => v ≠ .notImplemented ∧ ∃ k, v = .bool k ∧ (k = (!true) ↔ as = bs) ∧ ∃ H', Inv X pins σ H' s' ∧ Same H H') X.xe) p q its.toArray its2.toArray m1 m2 dd dd2 sl sl2 (fun i s' => as.take i = bs.take i ∧ ∃ H', Inv X pins σ H' s' ∧ Same H H') (fun i k1 k2 s' l => ?_) (fun s' l => ?_) ho ho2 ⟨rfl, H, I, Same.refl H⟩
  · refine wpAny_mono (turnB h sb r1 r2 v1 v2 i k1 k2 s' l.2) (fun r s2 z => ?_) fun _ _ x => x
    obtain ⟨hr, z⟩ := z
    cases r with
    | true => exact ⟨take_succ_eq l.1 (hr.mp rfl), z⟩
    | false =>
      refine ⟨(fun x => nomatch x), true, rfl, ⟨(fun x => nomatch x), fun e => ?_⟩, z⟩
      subst e
      exact absurd (hr.mpr rfl) Bool.false_ne_true
  · refine ⟨(fun x => nomatch x), _, rfl, ?_, l.2⟩
    rw [l1, l2] at l ⊢
    rw [← take_min_eq l.1]
    show ((as.length != bs.length) = false) ↔ _
    exact bne_eq_false_iff_eq
))
theorem rcB_lst [Up R] (h : EqB X n R) : RcB X (n + 1) .Eq false (RL X.K R) := @NI.run _ (by exact NI.carry : NI.Carry (by
  intro A pins s σ H x y u v as bs sb I rx ry h1 h2
  obtain ⟨p, xs, rfl, sq1, r1, z1⟩ := h1
  obtain ⟨q, ys, rfl, sq2, r2, z2⟩ := h2
  cases rx
  cases ry
  have look : ∀ s' : Shared, (∃ H', Inv X pins σ H' s' ∧ Same H H') → ∃ its its2 m1 m2 sl1 sl2, Vals xs its ∧ Vals ys its2 ∧ s'.heap.get? p = some { cls := .type "list", data := .seq its.toArray m1, slots := sl1 } ∧ s'.heap.get? q = some { cls := .type "list", data := .seq its2.toArray m2, slots := sl2 } := fun s' ⟨H', I', e'⟩ => by
    obtain ⟨its, m1, sl1, v1, e1⟩ := I'.plist (e'.seq sq1)
    obtain ⟨its2, m2, sl2, v2, e2⟩ := I'.plist (e'.seq sq2)
    exact ⟨its, its2, m1, m2, sl1, sl2, v1, v2, e1, e2⟩
  obtain ⟨its0, its02, m01, m02, s01, s02, v01, v02, e01, e02⟩ := look s ⟨H, I, Same.refl H⟩
  have l1 : its0.toArray.size = as.length := by rw [List.size_toArray, ← v01.length, r1.len]
  have l2 : its02.toArray.size = bs.length := by rw [List.size_toArray, ← v02.length, r2.len]
  refine wpAny_richCompare_same_room (op := .Eq) ⟨_, e01, rfl⟩ ⟨_, e02, rfl⟩ F.slot_list_eq (GQ.call_here F.slot_list_eq ⟨_, e01, rfl⟩ F.entry_list_eq (F.args_list_eq_2 _ _) ?_) sb.room.units0
  by_cases hl : as.length = bs.length
  · refine list_eqB (R := wants (fun v s' => v ≠ .notImplemented ∧ ∃ k, v = .bool k ∧ (k = (!false) ↔ as = bs) ∧ ∃ H', Inv X pins σ H' s' ∧ Same H H') X.xe) p q as.length (fun i s' => as.take i = bs.take i ∧ ∃ H', Inv X pins σ H' s' ∧ Same H H') (fun i s' l => ?_) (fun s' l => ?_) ⟨rfl, H, I, Same.refl H⟩
    · obtain ⟨its, its2, m1, m2, sl1, sl2, v1, v2, e1, e2⟩ := look s' l.2
      refine ⟨its.toArray, its2.toArray, m1, m2, sl1, sl2, e1, e2, by rw [List.size_toArray, ← v1.length, r1.len], by rw [List.size_toArray, ← v2.length, r2.len, hl], fun k1 k2 => ?_⟩
      refine wpAny_mono (turnB h sb r1 r2 v1 v2 i k1 k2 s' l.2) (fun r s2 z => ?_) fun _ _ x => x
      obtain ⟨hr, z⟩ := z
      cases r with
      | true => exact ⟨take_succ_eq l.1 (hr.mp rfl), z⟩
      | false =>
        refine ⟨⟨l.1, z⟩, (fun x => nomatch x), false, rfl, ⟨(fun x => nomatch x), fun e => ?_⟩, z⟩
        subst e
        exact absurd (hr.mpr rfl) Bool.false_ne_true
    · refine ⟨(fun x => nomatch x), !false, rfl, ⟨fun _ => ?_, fun _ => rfl⟩, l.2⟩
      have := l.1
      rw [List.take_of_length_le (by omega), List.take_of_length_le (by omega)] at this
      exact this
  · have hd : (its0.toArray.size != its02.toArray.size) = true := by rw [l1, l2]; exact bne_iff_ne.mpr hl
    refine list_eqL p q _ _ m01 m02 s01 s02 hd e01 e02 ⟨(fun x => nomatch x), false, rfl, ⟨fun x => (nomatch x), fun e => ?_⟩, H, I, Same.refl H⟩
    exact absurd (by rw [e]) hl
))
theorem rcB_lstN [Up R] (h : EqB X n R) : RcB X (n + 1) .NotEq true (RL X.K R) := @NI.run _ (by exact NI.carry : NI.Carry (by
  intro A pins s σ H x y u v as bs sb I rx ry h1 h2
  obtain ⟨p, xs, rfl, sq1, r1, z1⟩ := h1
  obtain ⟨q, ys, rfl, sq2, r2, z2⟩ := h2
  cases rx
  cases ry
  have look : ∀ s' : Shared, (∃ H', Inv X pins σ H' s' ∧ Same H H') → ∃ its its2 m1 m2 sl1 sl2, Vals xs its ∧ Vals ys its2 ∧ s'.heap.get? p = some { cls := .type "list", data := .seq its.toArray m1, slots := sl1 } ∧ s'.heap.get? q = some { cls := .type "list", data := .seq its2.toArray m2, slots := sl2 } := fun s' ⟨H', I', e'⟩ => by
    obtain ⟨its, m1, sl1, v1, e1⟩ := I'.plist (e'.seq sq1)
    obtain ⟨its2, m2, sl2, v2, e2⟩ := I'.plist (e'.seq sq2)
    exact ⟨its, its2, m1, m2, sl1, sl2, v1, v2, e1, e2⟩
  obtain ⟨its0, its02, m01, m02, s01, s02, v01, v02, e01, e02⟩ := look s ⟨H, I, Same.refl H⟩
  have l1 : its0.toArray.size = as.length := by rw [List.size_toArray, ← v01.length, r1.len]
  have l2 : its02.toArray.size = bs.length := by rw [List.size_toArray, ← v02.length, r2.len]
  refine wpAny_richCompare_same_room (op := .NotEq) ⟨_, e01, rfl⟩ ⟨_, e02, rfl⟩ F.slot_list_ne (GQ.call_here F.slot_list_ne ⟨_, e01, rfl⟩ F.entry_list_ne (F.args_list_ne_2 _ _) ?_) sb.room.units0
  by_cases hl : as.length = bs.length
  · refine list_neB (R := wants (fun v s' => v ≠ .notImplemented ∧ ∃ k, v = .bool k ∧ (k = (!true) ↔ as = bs) ∧ ∃ H', Inv X pins σ H' s' ∧ Same H H') X.xe) p q as.length (fun i s' => as.take i = bs.take i ∧ ∃ H', Inv X pins σ H' s' ∧ Same H H') (fun i s' l => ?_) (fun s' l => ?_) ⟨rfl, H, I, Same.refl H⟩
    · obtain ⟨its, its2, m1, m2, sl1, sl2, v1, v2, e1, e2⟩ := look s' l.2
      refine ⟨its.toArray, its2.toArray, m1, m2, sl1, sl2, e1, e2, by rw [List.size_toArray, ← v1.length, r1.len], by rw [List.size_toArray, ← v2.length, r2.len, hl], fun k1 k2 => ?_⟩
      refine wpAny_mono (turnB h sb r1 r2 v1 v2 i k1 k2 s' l.2) (fun r s2 z => ?_) fun _ _ x => x
      obtain ⟨hr, z⟩ := z
      cases r with
      | true => exact ⟨take_succ_eq l.1 (hr.mp rfl), z⟩
      | false =>
        refine ⟨⟨l.1, z⟩, (fun x => nomatch x), true, rfl, ⟨(fun x => nomatch x), fun e => ?_⟩, z⟩
        subst e
        exact absurd (hr.mpr rfl) Bool.false_ne_true
    · refine ⟨(fun x => nomatch x), !true, rfl, ⟨fun _ => ?_, fun _ => rfl⟩, l.2⟩
      have := l.1
      rw [List.take_of_length_le (by omega), List.take_of_length_le (by omega)] at this
      exact this
  · have hd : (its0.toArray.size != its02.toArray.size) = true := by rw [l1, l2]; exact bne_iff_ne.mpr hl
    refine list_neL p q _ _ m01 m02 s01 s02 hd e01 e02 ⟨(fun x => nomatch x), true, rfl, ⟨fun x => (nomatch x), fun e => ?_⟩, H, I, Same.refl H⟩
    exact absurd (by rw [e]) hl
))
end
end Wo
end
section
set_option exponentiation.threshold 20000
namespace Wo
open PySem PySem.Spec PyProof.Rows L2
def sp_eqQ (C : Addr) : Sp := sp2 fun x y H Q _ => ∃ p q : Rat, RQ C H x p ∧ RQ C H y q ∧ Q (.bl (decide (p = q))) H
section
variable {X : Cx} {n m : Nat} {α β : Type} {R : Rl α} {S : Rl β} {C g : Addr}
theorem rcB_rat (F : FnR X.prog X.w X.K X.mg X.base (CXW X.prog X.w) n g (sp_eqQ C)) (O : OwnM X.K C "__eq__" g) : RcB X n .Eq false (RQ C) := @NI.run _ (by exact NI.carry : NI.Carry (by
  intro A pins s σ H x y u v a b sb I rx ry h1 h2
  obtain ⟨p, dx, rfl, s1⟩ := id h1
  obtain ⟨q, dy, rfl, s2⟩ := id h2
  cases rx
  cases ry
  obtain ⟨sl, od, _, J, _⟩ := SlX.slt_inst I s1
  obtain ⟨sl', od', _, J', _⟩ := SlX.slt_inst I s2
  obtain ⟨m, hF⟩ := I.fr
  have e0 : Env0 X.prog X.w X.K X.mg X.base A X.stack s H := by
    have e := I.env0
    exact ⟨by rw [sb.fr]; exact e.frames, e.mod, e.bs, e.bsz, e.funs, e.frf, e.hok, e.bare⟩
  refine PySem.W.cmp_K (op := .Eq) (tb := .ref C) sb.room.units0 hF I.ok.mod.kin J J'.type (by simp [PySem.W.notFirst]) O.at_ O.fn ?_
  refine wpAny_mono (wpAny_call (SlX.run_at (A := A) (us := [.ref p, .ref q]) (ws := [.ref p, .ref q]) (Q := fun v H' => v = .bl (decide (a = b)) ∧ H' = H) (E := E0) F sb.room e0 passF I (.cons rfl (.cons rfl .nil)) ⟨_, _, rfl, a, b, h1, h2, rfl, rfl⟩)) (fun w s' z => ?_) fun _ _ x => x
  obtain ⟨z', H', I', rz, ez, eH⟩ := z
  subst ez eH
  cases (show w = Value.bool _ from rz)
  exact ⟨_, rfl, decide_eq_true_iff, H', I', Same.refl _⟩
))
theorem RcB.mono {op : CmpOp} {no : Bool} (h : RcB X n op no R) (hn : n ≤ m) : RcB X m op no R := fun A pins s σ H x y u v a b sb => h A pins s σ H x y u v a b (sb.mono hn)
theorem eqB_rat (F : FnR X.prog X.w X.K X.mg X.base (CXW X.prog X.w) n g (sp_eqQ C)) (O : OwnM X.K C "__eq__" g) : EqB X n (RQ C) := eqB_refs (fun _ _ _ ⟨p, _, e, _⟩ => ⟨p, e⟩) fn_rat (rcB_rat F O)
end
structure Lk (P : Program) (w : World) (K : PySem.W.Frag) (mg : Str → Option Value) (base : Heap) (X : Cx) : Prop where
  p : X.prog = P
  w : X.w = w
  k : X.K = K
  m : X.mg = mg
  b : X.base = base
def EqC (P : Program) (w : World) (K : PySem.W.Frag) (mg : Str → Option Value) (base : Heap) (n : Nat) {α : Type} (R : Rl α) : Prop := ∀ X : Cx, Lk P w K mg base X → RcB X n .Eq false R
def NeC (P : Program) (w : World) (K : PySem.W.Frag) (mg : Str → Option Value) (base : Heap) (n : Nat) {α : Type} (R : Rl α) : Prop := ∀ X : Cx, Lk P w K mg base X → RcB X n .NotEq true R
def EiC (P : Program) (w : World) (K : PySem.W.Frag) (mg : Str → Option Value) (base : Heap) (n : Nat) {α : Type} (R : Rl α) : Prop := ∀ X : Cx, Lk P w K mg base X → EqB X n R ∧ FnRl X R
def rEqX (P : Program) (w : World) (K : PySem.W.Frag) (mg : Str → Option Value) (base : Heap) (n : Nat) : R2 := fun x y H Q => ∃ (α : Type) (_ : DecidableEq α) (R : Rl α) (a b : α), EqC P w K mg base n R ∧ R H x a ∧ R H y b ∧ ∀ H', Same H H' → Q (.bl (decide (a = b))) H'
def rNeX (P : Program) (w : World) (K : PySem.W.Frag) (mg : Str → Option Value) (base : Heap) (n : Nat) : R2 := fun x y H Q => ∃ (α : Type) (_ : DecidableEq α) (R : Rl α) (a b : α), NeC P w K mg base n R ∧ R H x a ∧ R H y b ∧ ∀ H', Same H H' → Q (.bl (!decide (a = b))) H'
section
variable {X : Cx} {n m : Nat} {α β : Type} {R : Rl α} {S : Rl β} {C g : Addr} (P : Program) (w : World) (K : PySem.W.Frag) (mg : Str → Option Value) (base : Heap)
theorem eqX (hr : Room n X.A) (hl : Lk P w K mg base X := by exact ⟨rfl, rfl, rfl, rfl, rfl⟩) : OpR X (compareOp .Eq) (rEqX P w K mg base n) := @NI.run _ (by exact NI.carry : NI.Carry (by
  intro pins s σ H x y v u Q I rx ry hq
  obtain ⟨α, _, R, a, b, c, h1, h2, q⟩ := hq
  show wpAny (model X.prog X.w) X.A (richCompare .Eq v u) (EP X pins σ Q) X.xe s
  refine wpAny_mono (c X hl X.A pins s σ H x y v u a b ⟨hr, rfl⟩ I rx ry h1 h2) (fun r s' z => ?_) fun _ _ x => x
  obtain ⟨k, rfl, hk, H', I', e⟩ := z
  refine ⟨.bl k, H', I', rfl, ?_⟩
  have ek : k = decide (a = b) := by
    by_cases hab : a = b
    · rw [decide_eq_true hab]
      exact hk.mpr hab
    · rw [decide_eq_false hab]
      exact Bool.eq_false_iff.mpr fun z => hab (hk.mp z)
  rw [ek]
  exact q H' e
))
theorem neX (hr : Room n X.A) (hl : Lk P w K mg base X := by exact ⟨rfl, rfl, rfl, rfl, rfl⟩) : OpR X (compareOp .NotEq) (rNeX P w K mg base n) := @NI.run _ (by exact NI.carry : NI.Carry (by
  intro pins s σ H x y v u Q I rx ry hq
  obtain ⟨α, _, R, a, b, c, h1, h2, q⟩ := hq
  show wpAny (model X.prog X.w) X.A (richCompare .NotEq v u) (EP X pins σ Q) X.xe s
  refine wpAny_mono (c X hl X.A pins s σ H x y v u a b ⟨hr, rfl⟩ I rx ry h1 h2) (fun r s' z => ?_) fun _ _ x => x
  obtain ⟨k, rfl, hk, H', I', e⟩ := z
  refine ⟨.bl k, H', I', rfl, ?_⟩
  have ek : k = !decide (a = b) := by
    by_cases hab : a = b
    · rw [decide_eq_true hab]
      exact hk.mpr hab
    · rw [decide_eq_false hab]
      cases k with
      | true => rfl
      | false => exact absurd (hk.mp rfl) hab
  rw [ek]
  exact q H' e
))
end
section
variable {n m : Nat} {α β : Type} {R : Rl α} {S : Rl β} {C g : Addr} {P : Program} {w : World} {K : PySem.W.Frag} {mg : Str → Option Value} {base : Heap}
theorem ei_int : EiC P w K mg base n RI := fun X h => ⟨eqB_int.mono (Nat.zero_le n), fn_int⟩
theorem ei_bool : EiC P w K mg base n RB := fun X h => ⟨eqB_bool.mono (Nat.zero_le n), fn_bool⟩
theorem ei_str : EiC P w K mg base n RS := fun X h => ⟨eqB_str.mono (Nat.zero_le n), fn_str⟩
theorem ei_rat (F : FnR P w K mg base (CXW P w) m g (sp_eqQ C)) (O : OwnM K C "__eq__" g) (h : m ≤ n) : EiC P w K mg base n (RQ C) := fun X l => by
  obtain ⟨rfl, rfl, rfl, rfl, rfl⟩ := l
  exact ⟨(eqB_rat F O).mono h, fn_rat⟩
theorem ec_tup [Up R] (h : EiC P w K mg base n R) : EqC P w K mg base (n + 1) (RT K R) := fun X l => by
  obtain rfl := l.k
  exact rcB_tup (h X l).1
theorem ec_lst [Up R] (h : EiC P w K mg base n R) : EqC P w K mg base (n + 1) (RL K R) := fun X l => by
  obtain rfl := l.k
  exact rcB_lst (h X l).1
theorem nc_tup [Up R] (h : EiC P w K mg base n R) : NeC P w K mg base (n + 1) (RT K R) := fun X l => by
  obtain rfl := l.k
  exact rcB_tupN (h X l).1
theorem nc_lst [Up R] (h : EiC P w K mg base n R) : NeC P w K mg base (n + 1) (RL K R) := fun X l => by
  obtain rfl := l.k
  exact rcB_lstN (h X l).1
end
section
variable {n : Nat} {α : Type} [DecidableEq α] {R : Rl α} {H : Hp} {Q : VK} {x y : V} {a b : α} {P : Program} {w : World} {K : PySem.W.Frag} {mg : Str → Option Value} {base : Heap}
theorem rd_eqX (c : EqC P w K mg base n R) (h1 : R H x a) (h2 : R H y b) (q : ∀ H', Same H H' → Q (.bl (decide (a = b))) H') : rEqX P w K mg base n x y H Q := ⟨α, inferInstance, R, a, b, c, h1, h2, q⟩
theorem rd_neX (c : NeC P w K mg base n R) (h1 : R H x a) (h2 : R H y b) (q : ∀ H', Same H H' → Q (.bl (!decide (a = b))) H') : rNeX P w K mg base n x y H Q := ⟨α, inferInstance, R, a, b, c, h1, h2, q⟩
end
section
variable (K : PySem.W.Frag) {X : Cx}
theorem kIxT (h : X.K = K := by rfl) : IxR X (rIxT K) := @NI.run _ (by exact NI.carry : NI.Carry (by subst h; exact ix_tup
))
theorem kIxL (h : X.K = K := by rfl) : IxR X (rIxL K) := @NI.run _ (by exact NI.carry : NI.Carry (by subst h; exact ix_list
))
theorem kLen (h : X.K = K := by rfl) : CallR X (.builtin "len") (rLen K) := @NI.run _ (by exact NI.carry : NI.Carry (by subst h; exact bi_len
))
theorem kTuple (h : X.K = K := by rfl) : CallR X (.type "tuple") (rTupOf K) := @NI.run _ (by exact NI.carry : NI.Carry (by subst h; exact bi_tuple
))
theorem kList (h : X.K = K := by rfl) : CallR X (.type "list") (rLstOf K) := @NI.run _ (by exact NI.carry : NI.Carry (by subst h; exact bi_list
))
theorem kIsi (h : X.K = K := by rfl) : CallR X (.builtin "isinstance") (rIsiA K) := @NI.run _ (by exact NI.carry : NI.Carry (by subst h; exact isi
))
theorem kAll (hc : X.calm = true := by rfl) (h : X.K = K := by rfl) : CallR X (.builtin "all") (rAll K) := @NI.run _ (by exact NI.carry : NI.Carry (by subst h; exact cr_all hc
))
theorem kAny (hc : X.calm = true := by rfl) (h : X.K = K := by rfl) : CallR X (.builtin "any") (rAny K) := @NI.run _ (by exact NI.carry : NI.Carry (by subst h; exact cr_any hc
))
theorem kCatA (h : X.K = K := by rfl) : OpR X (binaryOp .Add) (rCatA K) := @NI.run _ (by exact NI.carry : NI.Carry (by subst h; exact op_catA
))
theorem kInSeq (h : X.K = K := by rfl) : OpR X (compareOp .In) (rIn K false) := @NI.run _ (by exact NI.carry : NI.Carry (by subst h; exact op_in_seq
))
variable {e l : Expr} {ta tl : TE} {tx : TA} {f : Str} {pos p tpos : Pos} {tg : Expr}
theorem kSl (he : PE X e ta) (hb : attributeBase e f X.env (eval e X.env) = eval e X.env := by rfl) (h : X.K = K := by rfl) : PE X (.Attribute e f pos) (SlX.tSl K ta f) := @NI.run _ (by exact NI.carry : NI.Carry (by subst h; exact SlX.pe_sl he hb
))
theorem kPiL (hl : PE X l tl) (h : X.K = K := by rfl) : PI X tg l (iList K tl) := @NI.run _ (by exact NI.carry : NI.Carry (by subst h; exact pi_list hl
))
theorem kPiT (hl : PE X l tl) (h : X.K = K := by rfl) : PI X tg l (iTup K tl) := @NI.run _ (by exact NI.carry : NI.Carry (by subst h; exact pi_tup hl
))
theorem kTup {es : List Expr} {k : Nat} {t : TGs} {n : Nat} (hc : X.calm = true) (h : PGs X es t)
    (hn : (assignEach es X.env).length = n := by rfl) (hst : (assignEach es X.env).findIdx? (·.1) = none := by rfl) (hK : X.K = K := by rfl) : PG X (.Tuple es k pos) (gTup K n t) := @NI.run _ (by exact NI.carry : NI.Carry (by subst hK; exact pg_tup hc h hn hst
))
end
def Prp (P : Program) (w : World) (K : PySem.W.Frag) (mg : Str → Option Value) (base : Heap) (k : Nat) (C : Addr) (f : Str) (sp : Sp) : Prop :=
  ∃ g, PropM K C f g ∧ SlX.SCls K C ∧ FnR P w K mg base (CXW P w) k g sp
section
variable {X : Cx} {k j : Nat} {sp : Sp} {C : Addr} {f : Str} {pos : Pos} {e : Expr} {ta : TE}
theorem pp (c : Prp X.prog X.w X.K X.mg X.base k C f sp) (hr : Room j X.A) (he : PE X e ta) (hk : k + 1 ≤ j := by decide) (hb : attributeBase e f X.env (eval e X.env) = eval e X.env := by rfl) : PE X (.Attribute e f pos) (SlX.tPropSl C sp E0 ta) := @NI.run _ (by exact NI.carry : NI.Carry (by
  obtain ⟨g, ⟨p, h1, h2, h3, h4⟩, hc, F⟩ := c
  exact SlX.pe_propSl he hc h1 h2 h3 h4 F (hr.mono hk) passF' hb
))
end
theorem rd_prop {C : Addr} {sp : Sp} {E : XK} {ta : TE} {σ : L2.St} {H : Hp} {Q : VK} (q : ta σ H fun x H1 => ∃ a dx vs, x = .ref a ∧ SlX.Slt H1 a C dx vs ∧ sp [.ref a] H1 Q E) : SlX.tPropSl C sp E ta σ H Q := q
def rLcm : List V → Hp → VK → Prop := fun vs H Q => ∃ a b : Int, vs = [.int a, .int b] ∧ (a.natAbs < 2 ^ 9000 ∧ b.natAbs < 2 ^ 9000) ∧ Q (.int ((Nat.lcm a.natAbs b.natAbs : Nat) : Int)) H
theorem rd_lcm {H : Hp} {Q : VK} {i j : Int} (q : Q (.int ((Nat.lcm i.natAbs j.natAbs : Nat) : Int)) H) (h : i.natAbs < 2 ^ 9000 ∧ j.natAbs < 2 ^ 9000) : rLcm [.int i, .int j] H Q := ⟨i, j, rfl, h, q⟩
section
variable {P : Program} {w : World} {K : PySem.W.Frag} {mg : Str → Option Value} {base : Heap} {k : Nat} {x name qual : Str} {params : Arguments} {body : List Stmt} {scope : Scope} {f : Addr} {N ps : List Str} {sp : Sp} {dvs : List V}
theorem fnR_ofD (F : ∃ fd, FunD K name qual params body scope dvs [] f fd) (S : FnScope N ps scope) (hd : dvs.length = 1)
    (n : Nat) (hn : n + 1 = ps.length)
    (hb1 : ∀ (T : Addr) (kV doc pm : Value) (an : Option Addr) (cdv ct : Value) (us its : List Value), us.length = n → its.length = 1 → ∃ k, bindArgs (PySem.W.fnOf name qual params body scope (.ref T) kV doc pm an cdv ct) ⟨us, []⟩ = seqItems? (.ref T) >>= k ∧ k (some its.toArray) = pure (ps.zip (us ++ its)))
    (hb0 : ∀ (T : Addr) (kV doc pm : Value) (an : Option Addr) (cdv ct : Value) (us its : List Value), us.length = n + 1 → its.length = 1 → ∃ k, bindArgs (PySem.W.fnOf name qual params body scope (.ref T) kV doc pm an cdv ct) ⟨us, []⟩ = seqItems? (.ref T) >>= k ∧ k (some its.toArray) = pure (ps.zip us))
    (len : ∀ vs H Q E, sp vs H Q E → vs.length = ps.length)
    (hbody : ∀ (cdv : Value) (A : Around) (outer : List Env) (s : Shared) (H : Hp) (vs : List V) (Q : VK) (E : XK), Room k (A.deeper (envOfC qual scope s.heap.objs.size f cdv)) → sp vs H Q E →
      ∃ t, PSs (cxOf (CXW P w) P w K mg base N qual scope f cdv A outer s H E) body t ∧ t { nx := fun _ H' => Q .non H', rt := Q } (start N vs) H) : FnR P w K mg base (CXW P w) (k + 1) f (fun vs H Q E => sp vs H Q E ∨ sp (vs ++ dvs) H Q E) := @NI.run _ (by exact NI.carry : NI.Carry (by
  obtain ⟨fd, F⟩ := F
  have G := FunD.ok (P := P) (w := w) (mg := mg) (base := base) (CX := CXW P w) F S len hbody
  have hne : dvs ≠ [] := fun e => by rw [e] at hd; cases hd
  obtain ⟨ds1, v1, b1⟩ := F.binds1 n 0 hne (by rw [hd]; exact hn) (fun T kV doc pm an cdv ct us its hu hi => by
    obtain ⟨k, e1, e2⟩ := hb1 T kV doc pm an cdv ct us its hu (by rw [hi, hd])
    exact ⟨k, e1, by rw [List.drop_zero]; exact e2⟩)
  obtain ⟨ds0, v0, b0⟩ := F.binds1 (n + 1) 1 hne (by rw [hd]; exact hn) (fun T kV doc pm an cdv ct us its hu hi => by
    obtain ⟨k, e1, e2⟩ := hb0 T kV doc pm an cdv ct us its hu (by rw [hi, hd])
    exact ⟨k, e1, by rw [List.drop_of_length_le (by omega), List.append_nil]; exact e2⟩)
  intro A outer s H us vs Q E hr e0 r hs
  rcases hs with hs | hs
  · refine G.raw b0 v0 A outer s H us vs Q E hr e0 r ?_
    show sp (vs ++ List.drop 1 dvs) H Q E
    rw [List.drop_of_length_le (by omega), List.append_nil]
    exact hs
  · refine G.raw b1 v1 A outer s H us vs Q E hr e0 r ?_
    show sp (vs ++ List.drop 0 dvs) H Q E
    rw [List.drop_zero]
    exact hs
))
end
end Wo
end
section
namespace Wo
open PySem PySem.Spec PyProof.Rows L2
def LcK (J : It) (H1 : Hp) (g : TG) (te : TE) (vs : List Nat) (σ : L2.St) (Q : VK) : Prop :=
  ∀ D, H1 D = none → ∃ W : Nat → Nat → Hp → Prop, (∃ m, W 0 m (upd H1 D (.lst []))) ∧ ∀ i m H, W i m H →
      (J.stop i H ∧ Q (.ref D) H) ∨ (J.go i H ∧ ∃ Nx : Hp → Prop, (∀ H', Nx H' → ∃ m', m' < m ∧ W (i + 1) m' H') ∧ ∀ x H', J.yld i H x H' → g x (wipe σ vs) H' fun σ2 H2 => wipe σ2 vs = wipe σ vs ∧ tYes σ2 H2 fun b H3 =>
        if b = true then (tHid te) σ2 H3 fun y H4 => ∃ acc, H4 D = some (.lst acc) ∧ acc.length < sizeLine ∧ Nx (upd H4 D (.lst (acc ++ [y]))) else Nx H3)
section
variable {K : PySem.W.Frag} {α β γ : Type} {R : Rl α} {S : Rl β} [Up R] [Up S] {J : It} {H1 : Hp} {as : List α} {g : TG} {te : TE} {vs : List Nat} {σ : L2.St} {Q : VK} {x : V}
theorem lcK_map (W : Wk J H1 R as) (hz : as.length ≤ sizeLine) (f : α → β)
    (hb : ∀ a G x, a ∈ as → Same H1 G → R G x a → ∃ σ2, GOk g x (wipe σ vs) G σ2 ∧ wipe σ2 vs = wipe σ vs ∧ ∀ Kt : VK, (∀ y G', Same G G' → S G' y (f a) → Kt y G') → te σ2 G Kt)
    (hd : ∀ v H', Same H1 H' → RL K S H' v (as.map f) → Q v H') : LcK J H1 g te vs σ Q := @NI.run _ (by exact NI.carry : NI.Carry (by
  intro D hD
  refine lc_map (K := K) (S := S) W hz (fun _ a => f a) (Qd := fun D H => Q (.ref D) H) (fun i a G x ha s rx => hb a G x (List.mem_of_getElem? ha) s rx) (fun D H' s r => hd _ _ s ?_) D hD
  rw [List.mapIdx_eq_zipIdx_map] at r
  have e : List.map (fun x : α × Nat => f x.1) as.zipIdx = as.map f := by
    rw [show (fun x : α × Nat => f x.1) = f ∘ Prod.fst from rfl, ← List.map_map, List.zipIdx_map_fst]
  rw [e] at r
  exact r
))
theorem lcK_name {i : Nat} (W : Wk J H1 R as) (hz : as.length ≤ sizeLine) (f : α → β)
    (hd : ∀ v H', Same H1 H' → RL K S H' v (as.map f) → Q v H')
    (hb : ∀ a G x, a ∈ as → Same H1 G → R G x a → ∀ Kt : VK, (∀ y G', Same G G' → S G' y (f a) → Kt y G') → te ((wipe σ vs).set i (some x)) G Kt)
    (hw : ∀ v, wipe ((wipe σ vs).set i (some v)) vs = wipe σ vs := by intro _; rfl) : LcK J H1 (gName i) te vs σ Q :=
  lcK_map W hz f (fun a G x ha s r => ⟨_, gok_name, hw x, hb a G x ha s r⟩) hd
theorem lcK_pair {δ : Type} {T : Rl γ} {U : Rl δ} [Up T] [Up U] {i j : Nat} {as : List (γ × δ)} (W : Wk J H1 (RP K T U) as) (hz : as.length ≤ sizeLine) (f : γ × δ → β)
    (hd : ∀ v H', Same H1 H' → RL K S H' v (as.map f) → Q v H')
    (hb : ∀ a G x y, a ∈ as → Same H1 G → T G x a.1 → U G y a.2 → ∀ Kt : VK, (∀ y G', Same G G' → S G' y (f a) → Kt y G') → te (((wipe σ vs).set i (some x)).set j (some y)) G Kt)
    (hw : ∀ v u, wipe (((wipe σ vs).set i (some v)).set j (some u)) vs = wipe σ vs := by intro _ _; rfl) : LcK J H1 (gTup K 2 (gCons (gName i) (gCons (gName j) gNil))) te vs σ Q :=
  lcK_map W hz f (fun a G x ha s r => by
    obtain ⟨p, y, z, rfl, hs, r1, r2⟩ := r
    exact ⟨_, gok_pair hs gok_name gok_name, hw y z, hb a G y z ha s r1 r2⟩) hd
end
section
variable {K : PySem.W.Frag} {α β : Type} {R : Rl α} {S : Rl β} [Up R] [Up S] {σ : L2.St} {H : Hp} {Q : VK} {g : TG} {te tl : TE} {ta : TA} {vs : List Nat} {as : List α} {bs : List β} {x y : V}
theorem rd_lcL (q : tl σ H fun x H1 => ∃ a, x = .ref a ∧ (∃ xs, SqL K H1 a xs) ∧ LcK (Itl K a) H1 g te vs σ Q) : tLc (iList K tl) g tYes (tHid te) vs σ H Q := q
theorem rd_lcT (q : tl σ H fun x H1 => ∃ a, x = .ref a ∧ (∃ xs, SqT K H1 a xs) ∧ LcK (Itt K a) H1 g te vs σ Q) : tLc (iTup K tl) g tYes (tHid te) vs σ H Q := q
theorem rd_lcR1 (q : ta σ H fun us H1 => ∃ j : Int, us = [.int j] ∧ -(2 ^ 62) ≤ j ∧ j < 2 ^ 62 ∧ LcK (Itr 0 j.toNat) H1 g te vs σ Q) : tLc (iRng1 ta) g tYes (tHid te) vs σ H Q := q
theorem rd_lcR2 (q : ta σ H fun us H1 => ∃ i j : Int, us = [.int i, .int j] ∧ (-(2 ^ 62) ≤ i ∧ i < 2 ^ 62 ∧ -(2 ^ 62) ≤ j ∧ j < 2 ^ 62) ∧ LcK (Itr i (j - i).toNat) H1 g te vs σ Q) : tLc (iRng2 ta) g tYes (tHid te) vs σ H Q := q
theorem rd_lcZ (q : ta σ H fun us H1 => ∃ a b xs ys, us = [.ref a, .ref b] ∧ SqL K H1 a xs ∧ SqL K H1 b ys ∧ LcK (Itz K a b) H1 g te vs σ Q) : tLc (iZip K ta) g tYes (tHid te) vs σ H Q := q
theorem lcL (h : RL K R H x as) (q : ∀ J, Wk J H R as → as.length ≤ sizeLine → LcK J H g te vs σ Q) : ∃ a, x = .ref a ∧ (∃ xs, SqL K H a xs) ∧ LcK (Itl K a) H g te vs σ Q := @NI.run _ (by exact NI.carry : NI.Carry (by
  obtain ⟨p, ws, rfl, s, r, z⟩ := id h
  exact ⟨p, rfl, ⟨ws, s⟩, q _ (wk_list h) (by rw [← r.len]; exact z)⟩
))
theorem lcT (h : RT K R H x as) (q : ∀ J, Wk J H R as → as.length ≤ sizeLine → LcK J H g te vs σ Q) : ∃ a, x = .ref a ∧ (∃ xs, SqT K H a xs) ∧ LcK (Itt K a) H g te vs σ Q := @NI.run _ (by exact NI.carry : NI.Carry (by
  obtain ⟨p, ws, rfl, s, r, z⟩ := id h
  exact ⟨p, rfl, ⟨ws, s⟩, q _ (wk_tup h) (by rw [← r.len]; exact z)⟩
))
theorem lcR1 {j : Int} (h2 : j < 10 ^ 6) (q : ∀ J, Wk J H RI (rgI 0 j.toNat) → (rgI 0 j.toNat).length ≤ sizeLine → LcK J H g te vs σ Q) (h1 : 0 ≤ j) (hz : 10 ^ 6 ≤ sizeLine := by decide) : ∃ i : Int, [V.int j] = [.int i] ∧ -(2 ^ 62) ≤ i ∧ i < 2 ^ 62 ∧ LcK (Itr 0 i.toNat) H g te vs σ Q :=
  ⟨j, rfl, by omega, by omega, q _ wk_range (by rw [rgI_len]; omega)⟩
end
def ForK (J : It) (H1 : Hp) (g : TG) (tb : TS) (D : Ends) (σ : L2.St) : Prop :=
  ∃ W : Nat → Nat → L2.St → Hp → Prop, (∃ m, W 0 m σ H1) ∧ ∀ i m σ H, W i m σ H →
  (J.stop i H ∧ D.nx σ H) ∨ (J.go i H ∧ ∃ N : L2.St → Hp → Prop, (∀ σ' H', N σ' H' → ∃ m', m' < m ∧ W (i + 1) m' σ' H') ∧ ∀ x H', J.yld i H x H' → g x σ H' fun σ2 H2 => tb { D with nx := N, ct := N, bk := D.nx } σ2 H2)
section
variable {K : PySem.W.Frag} {α β : Type} {R : Rl α} {S : Rl β} [Up R] [Up S] {σ : L2.St} {H : Hp} {D : Ends} {g : TG} {tl : TE} {tb : TS} {ta : TA} {as : List α} {bs : List β} {x y : V} {J : It}
theorem forK (W : Wk J H R as) (I : Nat → L2.St → Hp → Prop) (h0 : I 0 σ H) (hs : ∀ i σ' H', I i σ' H' → Same H H')
    (hb : ∀ i σ' H' a x H'', as[i]? = some a → I i σ' H' → Same H' H'' → Same H H'' → R H'' x a → g x σ' H'' fun σ2 H2 => tb { D with nx := I (i + 1), ct := I (i + 1), bk := D.nx } σ2 H2)
    (hd : ∀ σ' H', I as.length σ' H' → D.nx σ' H') : ForK J H g tb D σ := @NI.run _ (by exact NI.carry : NI.Carry (by
  refine ⟨fun i m σ' H' => m = as.length - i ∧ i ≤ as.length ∧ I i σ' H', ⟨as.length, by simp, Nat.zero_le _, h0⟩, ?_⟩
  rintro i m σ' H' ⟨rfl, hi, hI⟩
  have s := hs i σ' H' hI
  by_cases hlt : i < as.length
  · refine .inr ⟨W.go i H' s hlt, I (i + 1), fun σ2 H2 q => ⟨as.length - (i + 1), by omega, rfl, hlt, q⟩, fun x H'' hy => ?_⟩
    obtain ⟨s2, rx⟩ := W.yld i H' x H'' as[i] s (by simp [hlt]) hy
    exact hb i σ' H' as[i] x H'' (by simp [hlt]) hI s2 (s.trans s2) rx
  · have e : i = as.length := by omega
    subst e
    exact .inl ⟨W.stop H' s, hd σ' H' hI⟩
))
theorem rd_forL (q : tl σ H fun x H1 => ∃ a, x = .ref a ∧ (∃ xs, SqL K H1 a xs) ∧ ForK (Itl K a) H1 g tb D σ) : tFor (iList K tl) g tb D σ H := q
theorem rd_forT (q : tl σ H fun x H1 => ∃ a, x = .ref a ∧ (∃ xs, SqT K H1 a xs) ∧ ForK (Itt K a) H1 g tb D σ) : tFor (iTup K tl) g tb D σ H := q
theorem rd_forR1 (q : ta σ H fun us H1 => ∃ j : Int, us = [.int j] ∧ -(2 ^ 62) ≤ j ∧ j < 2 ^ 62 ∧ ForK (Itr 0 j.toNat) H1 g tb D σ) : tFor (iRng1 ta) g tb D σ H := q
theorem rd_forZ (q : ta σ H fun us H1 => ∃ a b xs ys, us = [.ref a, .ref b] ∧ SqL K H1 a xs ∧ SqL K H1 b ys ∧ ForK (Itz K a b) H1 g tb D σ) : tFor (iZip K ta) g tb D σ H := q
theorem forL (h : RL K R H x as) (q : ∀ J, Wk J H R as → as.length ≤ sizeLine → ForK J H g tb D σ) : ∃ a, x = .ref a ∧ (∃ xs, SqL K H a xs) ∧ ForK (Itl K a) H g tb D σ := @NI.run _ (by exact NI.carry : NI.Carry (by
  obtain ⟨p, ws, rfl, s, r, z⟩ := id h
  exact ⟨p, rfl, ⟨ws, s⟩, q _ (wk_list h) (by rw [← r.len]; exact z)⟩
))
theorem forT (h : RT K R H x as) (q : ∀ J, Wk J H R as → as.length ≤ sizeLine → ForK J H g tb D σ) : ∃ a, x = .ref a ∧ (∃ xs, SqT K H a xs) ∧ ForK (Itt K a) H g tb D σ := @NI.run _ (by exact NI.carry : NI.Carry (by
  obtain ⟨p, ws, rfl, s, r, z⟩ := id h
  exact ⟨p, rfl, ⟨ws, s⟩, q _ (wk_tup h) (by rw [← r.len]; exact z)⟩
))
theorem rd_gpair {i j : Nat} {P : L2.St → Hp → Prop} {a : α} {b : β} (h : RP K R S H x (a, b)) (k : ∀ y z, R H y a → S H z b → P ((σ.set i (some y)).set j (some z)) H) : gTup K 2 (gCons (gName i) (gCons (gName j) gNil)) x σ H P := @NI.run _ (by exact NI.carry : NI.Carry (by
  obtain ⟨p, y, z, rfl, s, r1, r2⟩ := h
  exact ⟨p, [y, z], rfl, s, rfl, y, [z], rfl, z, [], rfl, rfl, k y z r1 r2⟩
))
end
def Lc2K (K : PySem.W.Frag) (J : It) (i j : Nat) (te : TE) (vs vs1 : List Nat) (σ : L2.St) (H1 : Hp) (Q : VK) : Prop := ∀ D, H1 D = none → ∃ W : Nat → Nat → Hp → Prop, (∃ m, W 0 m (upd H1 D (.lst []))) ∧ ∀ n m H, W n m H →
  (J.stop n H ∧ Q (.ref D) H) ∨ (J.go n H ∧ ∃ Nx : Hp → Prop, (∀ H', Nx H' → ∃ m', m' < m ∧ W (n + 1) m' H') ∧ ∀ x H', J.yld n H x H' → gName i x (wipe σ vs) H' fun σ2 H2 => wipe σ2 vs = wipe σ vs ∧ tYes σ2 H2 fun b H3 =>
    if b = true then iTup K (tVar i) σ2 H3 fun J1 H4 => ∃ W1 : Nat → Nat → Hp → Prop, (∃ m, W1 0 m H4) ∧ ∀ n k H, W1 n k H →
      (J1.stop n H ∧ Nx H) ∨ (J1.go n H ∧ ∃ Nx1 : Hp → Prop, (∀ H', Nx1 H' → ∃ k', k' < k ∧ W1 (n + 1) k' H') ∧ ∀ x H', J1.yld n H x H' → gName j x (wipe σ2 vs1) H' fun σ3 H5 => wipe σ3 vs1 = wipe σ2 vs1 ∧ tYes σ3 H5 fun b H6 =>
        if b = true then (tHid te) σ3 H6 fun y H7 => ∃ acc, H7 D = some (.lst acc) ∧ acc.length < sizeLine ∧ Nx1 (upd H7 D (.lst (acc ++ [y]))) else Nx1 H6)
    else Nx H3)
section
variable {K : PySem.W.Frag} {α β : Type} {R : Rl α} {S : Rl β} [Up R] [Up S] {σ : L2.St} {H : Hp} {Q : VK} {te tl : TE} {vs vs1 : List Nat} {as : List (List α)} {x : V}
theorem rd_lc2TT {i j : Nat} (q : tl σ H fun x H1 => ∃ a, x = .ref a ∧ (∃ xs, SqT K H1 a xs) ∧ Lc2K K (Itt K a) i j te vs vs1 σ H1 Q) :
    tLc2 (iTup K tl) (gName i) tYes (iTup K (tVar i)) (gName j) tYes (tHid te) vs vs1 σ H Q := q
end
end Wo
namespace Wo
open PySem PySem.Spec PyProof.Rows L2
section
variable {X : Cx} {x : Str} {pos : Pos} {a : Addr}
theorem pe_gC (h : X.mg x = some (.ref a)) (hg : Gl X x := by rfl) (hd : (x == ("__debug__" : Str)) = false := by decide) : PE X (.Name x pos) (tC (.ref a)) := pe_glob hg h (show RelV (.ref a) (.ref a) from rfl) hd
end
section
variable {K : PySem.W.Frag} {H : Hp} {Q : VK} {v c : V} {t u : Value}
theorem rd_isiY (ty : HasTy K H v t) (q : Q (.bl true) H) (k : ClsV c u) (e : PySem.W.kitOne K t u = some true := by rfl) : rIsiA K [v, c] H Q := rd_isi ty k e q
theorem rd_isiN (ty : HasTy K H v t) (q : Q (.bl false) H) (k : ClsV c u) (e : PySem.W.kitOne K t u = some false := by rfl) : rIsiA K [v, c] H Q := rd_isi ty k e q
theorem ite_n {A B : Prop} (h : B) : if (!true) = true then A else B := h
theorem ite_y {A B : Prop} (h : A) : if (!false) = true then A else B := h
end
end Wo
namespace Wo
open PySem PySem.Spec PyProof.Rows L2
section
variable {K : PySem.W.Frag} {C fi : Addr} {f0 f1 : Str} {H : Hp} {Q : VK} {v : V} {q : Rat}
theorem rd_top (T : Sl2 K C f0 f1 fi) (h : RQ C H v q) {Q : V → Prop} (k : Q (.int q.num)) : ∃ a C dx p vs i z, v = .ref a ∧ SlX.Slt H a C dx vs ∧ SlX.SCls K C ∧ SlX.Slot1 K C f1 p i ∧ vs[i]? = some (some z) ∧ Q z := @NI.run _ (by exact NI.carry : NI.Carry (by
  obtain ⟨a, dx, e, s⟩ := h
  obtain ⟨p, sp⟩ := T.s1
  exact ⟨a, C, dx, p, _, 1, _, e, s, T.cl, sp, rfl, k⟩
))
theorem rd_bot (T : Sl2 K C f0 f1 fi) (h : RQ C H v q) {Q : V → Prop} (k : Q (.int (q.den : Int))) : ∃ a C dx p vs i z, v = .ref a ∧ SlX.Slt H a C dx vs ∧ SlX.SCls K C ∧ SlX.Slot1 K C f0 p i ∧ vs[i]? = some (some z) ∧ Q z := @NI.run _ (by exact NI.carry : NI.Carry (by
  obtain ⟨a, dx, e, s⟩ := h
  obtain ⟨p, sp⟩ := T.s0
  exact ⟨a, C, dx, p, _, 0, _, e, s, T.cl, sp, rfl, k⟩
))
theorem HasTy.rq (T : Sl2 K C f0 f1 fi) (h : RQ C H v q) : HasTy K H v (.ref C) := HasTy.ob T h
theorem rq_slH {y dx e d : Addr} {D : Addr} {fs : List (Str × V)} {vs : List (Option V)} (h : RQ C H v q) (hy : H y = some (.ins D d fs)) (hx : H dx = some (.own e)) : RQ C (SlX.slH H y D dx vs) v q := @NI.run _ (by exact NI.carry : NI.Carry (by
  obtain ⟨a, d', rfl, s⟩ := h
  refine ⟨a, d', rfl, ?_⟩
  rcases s with ⟨h1, h2⟩ | ⟨h1, h2⟩
  · cases h2
  · have n0 : a ≠ y := fun z => by
      rw [z, hy] at h1
      have := Option.some.inj h1
      unfold SlX.SlO at this
      cases this
    have n1 : a ≠ dx := fun z => by
      rw [z, hx] at h1
      have := Option.some.inj h1
      unfold SlX.SlO at this
      cases this
    have n2 : d' ≠ y := fun z => by
      rw [z, hy] at h2; cases h2
    have n3 : d' ≠ dx := fun z => by
      rw [z, hx] at h2; cases h2
    exact .inr ⟨by rw [SlX.slH_ne n0 n1]; exact h1, by rw [SlX.slH_ne n2 n3]; exact h2⟩
))
end
end Wo
namespace Wo
open PySem PySem.Spec PyProof.Rows L2
theorem HasTy.sqT {K : PySem.W.Frag} {H : Hp} {p : Addr} {xs : List V} (h : SqT K H p xs) : HasTy K H (.ref p) (.type "tuple") := @NI.run _ (by exact NI.carry : NI.Carry (by
  rcases h with (h | ⟨o, h⟩) | ⟨o, its, n, hk, hc, hs, hz, r⟩
  · exact .inl (.base (.tup h))
  · exact .inl (.fTuple h)
  · exact .inl (.kTuple hk hc)
))
theorem HasTy.rt {K : PySem.W.Frag} {α : Type} {R : Rl α} {H : Hp} {v : V} {as : List α} (h : RT K R H v as) : HasTy K H v (.type "tuple") := @NI.run _ (by exact NI.carry : NI.Carry (by
  obtain ⟨p, vs, rfl, s, _, _⟩ := h
  exact HasTy.sqT s
))
section
variable {K : PySem.W.Frag} {α β : Type} {R : Rl α} {S : Rl β} [Up R] [Up S] {J : It} {H1 : Hp} {as : List α} {g : TG} {te : TE} {vs : List Nat} {σ : L2.St} {Q : VK} {x : V}
theorem lcK_rel {i0 : Nat} (W : Wk J H1 R as) (hz : as.length ≤ sizeLine) (P : β → Prop)
    (hd : ∀ v H' bs, Same H1 H' → bs.length = as.length → (∀ b ∈ bs, P b) → RL K S H' v bs → Q v H')
    (hb : ∀ a G x, a ∈ as → Same H1 G → R G x a → ∀ Kt : VK, (∀ y G' b, Same G G' → S G' y b → P b → Kt y G') → te ((wipe σ vs).set i0 (some x)) G Kt)
    (hw : ∀ v, wipe ((wipe σ vs).set i0 (some v)) vs = wipe σ vs := by intro _; rfl) : LcK J H1 (gName i0) te vs σ Q := @NI.run _ (by exact NI.carry : NI.Carry (by
  intro D hD
  refine ⟨fun i m H => m = as.length - i ∧ i ≤ as.length ∧ ∃ G acc bs, H = upd G D (.lst acc) ∧ G D = none ∧ Same H1 G ∧ bs.length = i ∧ (∀ b ∈ bs, P b) ∧ RAll S G acc bs, ⟨as.length, by simp, Nat.zero_le _, H1, [], [], rfl, hD, Same.refl _, rfl, (fun b h => by cases h), .nil⟩, ?_⟩
  rintro i m H ⟨rfl, hi, G, acc, bs, rfl, hG, s, hbl, hP, ra⟩
  have hla : acc.length = i := by rw [ra.len, hbl]
  by_cases hlt : i < as.length
  · refine .inr ⟨W.go i _ (s.trans (Same.new hG)) hlt, fun H' => ∃ G' acc' bs', H' = upd G' D (.lst acc') ∧ G' D = none ∧ Same H1 G' ∧ bs'.length = i + 1 ∧ (∀ b ∈ bs', P b) ∧ RAll S G' acc' bs', ?_, ?_⟩
    · rintro H' ⟨G', acc', bs', e, h1, h2, h3, h4, h5⟩
      exact ⟨as.length - (i + 1), by omega, rfl, hlt, G', acc', bs', e, h1, h2, h3, h4, h5⟩
    · intro x H' hy
      obtain ⟨G', s2, hG', eH, rx⟩ := W.yldD i G D _ x H' as[i] s hG (by simp [hlt]) hy
      subst eH
      refine ⟨hw x, tYes_of ⟨D, acc, upd_same, ?_⟩⟩
      rw [hid_upd hG']
      refine hb as[i] G' x (List.getElem_mem hlt) (s.trans s2) rx _ fun y G2 b s3 hy2 hp hG2 => ?_
      refine ⟨acc, upd_same, by omega, G2, acc ++ [y], bs ++ [b], ?_, hG2, (s.trans s2).trans s3, ?_, ?_, (ra.up (s2.trans s3)).snoc hy2⟩
      · rw [upd_upd]
      · rw [List.length_append, hbl]; rfl
      · intro c hc
        rcases List.mem_append.mp hc with hc | hc
        · exact hP c hc
        · obtain rfl := List.mem_singleton.mp hc
          exact hp
  · have e : i = as.length := by omega
    subst e
    exact .inl ⟨W.stop _ (s.trans (Same.new hG)), hd _ _ bs (s.trans (Same.new hG)) hbl hP (RL.mk hG ra (by omega))⟩
))
end
end Wo
namespace Wo
open PySem PySem.Spec PyProof.Rows L2
end Wo
namespace Wo
open L2
end Wo
namespace Wo
open PySem PySem.Spec PyProof.Rows L2
theorem rd_rep {H : Hp} {Q : VK} {p : Addr} {x : V} {n : Nat} (h : H p = some (.lst [x])) (hn : n ≤ 1000) (k : ∀ q H', Same H H' → H' q = some (.lst (List.replicate n x)) → Q (.ref q) H') : rRep (.ref p) (.int (n : Int)) H Q := @NI.run _ (by exact NI.carry : NI.Carry (by
  refine ⟨p, n, [x], rfl, rfl, h, by omega, by omega, ?_, fun q hq => ?_⟩
  · rw [Int.toNat_natCast, List.length_singleton, Nat.one_mul]
    exact Nat.le_trans hn (by decide)
  · rw [Int.toNat_natCast]
    have e : (List.replicate n [x]).flatten = List.replicate n x := by simp
    rw [e]
    exact k q _ (Same.new hq) upd_same
))
end Wo
namespace Wo
open PySem PySem.Spec PyProof.Rows L2
def CPowW (i j : Int) : Prop := 0 ≤ j ∧ j ≤ 1000 ∧ i.natAbs.log2 < 10000
theorem op_powW {X : Cx} : OpR X (binaryOp .Pow) (rI CPowW fun i j => .int (i ^ j.toNat)) := opI fun i j _ _ _ _ _ hc q => by
  obtain ⟨h1, h2, h3⟩ := hc
  refine pow_int h1 ?_ q
  have b : Builtin.Int.intBits i ≤ i.natAbs.log2 + 1 := by
    unfold Builtin.Int.intBits
    split <;> omega
  have b2 : (Builtin.Int.intBits i : Int) ≤ 10000 := by omega
  have b3 : (Builtin.Int.intBits i : Int) * j ≤ 10000 * 1000 := Int.mul_le_mul b2 h2 h1 (by omega)
  exact Int.le_trans b3 (by decide)
section
variable {K : PySem.W.Frag} {H : Hp} {Q : VK} {u : Addr} {xs : List V} {n : Nat} {v : V} {i : Int}
theorem rd_ixC (h : H u = some (.lst xs)) (q : Q v H) (hi : xs[n]? = some v := by rfl) (hn : i = (n : Int) := by rfl) : rIxL K (.ref u) (.int i) H Q := @NI.run _ (by exact NI.carry : NI.Carry (by
  subst hn
  exact ⟨u, xs, _, v, rfl, rfl, .inl (.inl h), atI_nat hi, q⟩
))
theorem rd_sub {ta tb : TE} {σ : L2.St} {ps : V → V → V → Hp → (Hp → Prop) → Prop} {w : V} {P : L2.St → Hp → Prop} (q : ta σ H fun o H1 => tb σ H1 fun i H2 => ps o i w H2 fun H3 => P σ H3) : gSub ta tb ps w σ H P := q
end
end Wo
end
section
namespace Wo
open PySem PySem.W PySem.Calls PyProof.Rows PySem.HandSPX PySem.Builtin PySem.Builtin.ObjectAttr
structure SupPos where
  (p0 p1 p2 p3 p4 p5 p6 p7 q0 q1 q2 q3 : Pos)
def supBody (z : SupPos) (sl a f : Str) : List Stmt :=
  [.Expr (.Call (.Attribute (.Call (.Name "super" z.p0) [] [] z.p1) "__init__" z.p2) [.Call (.Name "str" z.p3) [.Name a z.p4] [] z.p5] [] z.p6) z.p7, .Assign [.Attribute (.Name sl z.q0) f z.q1] (.Name a z.q2) z.q3]
def StrOk (prog : Program) (w : World) (A0 : Around) (fs : List Addr) (os : OsState) (H : L2.Hp) (h1 : Heap) (v : Value) (Rv : L2.Hp → Prop) : Prop :=
  ∀ (A : Around) (E : Value → Shared → Prop) (Q : Value → Shared → Prop) (s : Shared) (L : Addr) (env : Env), A.units + 32 < cLine → A.units ≤ A0.units + 24 → A.depth ≤ A0.depth + 1 → A.handled = A0.handled → A.frames = A0.frames.map (env :: ·) → env.scope.kind ≠ .module → env.frame = some L →
    (∃ o, s.heap.get? L = some o ∧ ∀ vs, o.data ≠ .fields vs) → h1.objs.size ≤ L → (∀ b o, h1.get? b = some o → s.heap.get? b = some o) → s.os = os → AllBare s.gens →
    (∀ u s' H', s'.os = os → AllBare s'.gens → L2.Un (L :: fs) [] H H' s.heap s'.heap → L2.HOk prog w H' s'.heap → Rv H' → Q u s') → wpAny (model prog w) A (call (.type "str") [v]) Q E s
section
variable {prog : Program} {w : World} {A : Around} {R : Result → Shared → Prop} {K : Frag} {mg mb : Str → Option Value} {hp h1 : Heap} {g : Array GenState} {d : Drawn} {tk : Nat} {os : OsState} {B i newId : String} {tail : List Value}
  {C fI cc cda e t0 : Addr} {sl a f nm qual : Str} {v : Value} {params : Arguments} {scope : Scope} {oc dV kV doc pm ct ccl cl : Value} {an od cdd cld : Option Addr} {osl ccs csl : Array (Option Value)} {vs : Array Value} {file : Str} {tf : Tok} {ar : Arg} {z : SupPos} {cd : ClassData}
  {H1 : L2.Hp} {fs : List Addr} {Rv : L2.Hp → Prop}
  {cnm cq : Str} {cN : Addr} {cbs cbm : List Value} {csn : List Str} {csub : List Value} {cab : Bool} {ccol : Option Bool} {cdd2 : Option Addr} {k0 k1 k2 k3' k5 : Option Value}
theorem osa_any {name : Str} {tok : Tok} {x : Addr} {fv : Array Value}
    (X : K.In h1) (hx : h1.get? x = some { cls := .ref C, data := .fields fv }) (hcd : clsIn K C = some cd) (hpass : refuseLoop (.ref x) "__setattr__" cd.mro = pure ()) (hob : mroIn K C (.type "object") = some true) (hh : cd.hasDict = true) (ha : findIn K (.ref C) name = some none)
    (hq : ∀ h' tk' dx, (∀ b o, b ≠ x → h1.get? b = some o → h'.get? b = some o) → h1.objs.size ≤ dx → dx ≠ x → h'.get? x = some { cls := .ref C, dict := some dx, data := .fields fv } →
      h'.Ns1 dx (fun y => if y = name then some v else none) → R (.ok (.ret .none)) ⟨h', g, d, tk', os⟩) :
    codeAny (model prog w) A (.call (.builtin "object.__setattr__") ⟨[.ref x, .str name tok, v], []⟩) R ⟨h1, g, d, tk, os⟩ := @NI.run _ (by exact NI.carry : NI.Carry (by
  have I : InstAt h1 x { cls := .ref C, data := .fields fv } C none := ⟨hx, rfl, rfl, trivial⟩
  have SF := F.store_object
  have hxs : x ≠ h1.objs.size := Nat.ne_of_lt (Heap.lt_size hx)
  have sub : Looks (model prog w) h1 (isInstance (.ref x) (.type "object")) true := I.type.andThen (looks_mroIn X hob)
  refine codeAny_call_builtin SF.slot.plain SF.entry (@check_slot (model prog w) _ _ ⟨h1, g, d, tk, os⟩ "object.__setattr__" "object" "__setattr__" (.ref x) [.str name tok, v] [] _ SF.kind SF.split sub (SF.args (.ref x) (.str name tok) v) ?_)
  have hmr : Looks (model prog w) h1 (mroOf (.ref C)) cd.mro := (looks_clsIn X hcd).andThen .now
  have L3 : Looks (model prog w) h1 (storeTaker? none) none := .now
  have hcls : Looks (model prog w) h1 (classData C) cd := looks_clsIn X hcd
  rw [osa_eq, refuse_eq]
  refine wpAny_bind (wpAny_bind (I.type.at (wpAny_bind (hmr.at ?_))))
  rw [hpass]
  refine wpAny_pure (wpAny_bind (I.type.at (wpAny_bind ((looks_findIn X ha).at (wpAny_bind (L3.at ?_))))))
  show wpAny _ _ (storeInOwnDict (.ref x) (.ref C) (.str name tok) name v false) _ _ _
  obtain ⟨nm, bs, mro, ns, qn, hd, sn, sb, ab, col, del⟩ := cd
  dsimp only at hh
  subst hh
  unfold storeInOwnDict ownDictForStores
  repeat (first | with_reducible refine store_in_new ?_ ?_ | with_reducible refine wpAny_loadPart_at hx ?_ | with_reducible refine hcls.at ?_ | wp_step)
  · exact ⟨_, #[], _, (Heap.get?_update_ne _ _ _ _ hxs.symm).trans (Heap.get?_push_at rfl rfl), rfl, fun e he => absurd he (by simp), fun _ => rfl⟩
  · intro h' tk' hn' hs
    have hx₁ : (h1.push { cls := .type "dict", data := .dict #[] }).get? x = some { cls := .ref C, data := .fields fv } := Heap.get?_push_of_some _ hx
    refine hq h' tk' h1.objs.size (fun b o hb ho => ?_) (Nat.le_refl _) hxs.symm ?_ hn'
    · exact (hs.2 b (Nat.ne_of_lt (Heap.lt_size ho))).trans ((Heap.get?_update_ne _ _ _ _ hb).trans (Heap.get?_push_of_some _ ho))
    · exact (hs.2 x hxs).trans (Heap.get?_update_self _ hx₁ rfl)
))
structure InitF (B i : String) : Prop where
  slot : Slot B "__init__" i
  entry : entryFor table i = some Builtin.«BaseException.__init__»
  kind : builtinKind i = some .slot
  row : Manifest.signature? i = some ⟨.positional, "*", B, .self, [⟨"args", .varPos, false⟩]⟩
  star : (B != "*") = true
theorem InitF.of {B newId i : String} {bm : List Value} (F : ExcBaseFacts B newId i bm) : InitF B i := ⟨F.init, F.initEntry, F.initKind, F.initRow, F.noStar⟩
theorem check_bnd {M : Model} {E : Value → Shared → Prop} {oe : Obj} {rest : List Value} {Q : Unit → Shared → Prop} (F : InitF B i)
    (hC : h1.get? C = some (excClassObj cnm cq C cN cbs cbm true csn csub cab ccol cdd2 k0 k1 k2 k3' k5 newId)) (he : h1.get? e = some oe) (hcls : oe.cls = .ref C) (hq : Q () ⟨h1, g, d, tk, os⟩) : wpAny M A (checkBoundCall i ⟨.ref e :: rest, []⟩) Q E ⟨h1, g, d, tk, os⟩ := @NI.run _ (by exact NI.carry : NI.Carry (by
  have star := F.star
  simp only [checkBoundCall, F.kind, F.row]
  repeat (first | (with_reducible refine wpAny_loadPart_at he ?_; rw [hcls]) | with_reducible refine wpAny_loadPart_at hC ?_ | wp_step)
  refine wpAny_onRaise ?_
  have none_ : ∀ (x y : String) (n : Nat), Bind.check ⟨.positional, "*", B, .self, [⟨"args", .varPos, false⟩]⟩ x y n (List.map (fun z => z.fst) ({ pos := Value.ref e :: rest } : Args).kw) = pure () := fun x y n => check_star_args _ _ _ _ _ _
  rw [none_]
  exact wpAny_pure hq
))
def OwnF (newId : String) (tail : List Value) : Prop := ∃ (B0 i0 : String) (bm0 : List Value), ExcBaseFacts B0 newId i0 bm0 ∧ tail.contains (.type B0) = true ∧ tail.contains (.type "AttributeError") = false ∧ tail.contains (.type "NameError") = false
theorem OwnF.of {B newId i : String} {bm tail : List Value} (F : ExcBaseFacts B newId i bm) (hT : ∀ T : String, tail.contains (.type T) = bm.contains (.type T)) : OwnF newId tail := ⟨B, i, bm, F, by rw [hT, F.hasB], by rw [hT, F.noAttr], by rw [hT, F.noName]⟩
theorem call_bound {u : Addr} {rest : List Value} {Q : Value → Shared → Prop} {E : Value → Shared → Prop} (FB : InitF B i)
    (hC : h1.get? C = some (excClassObj cnm cq C cN cbs cbm true csn csub cab ccol cdd2 k0 k1 k2 k3' k5 newId)) (he : h1.get? e = some (excO C t0)) (hu : h1.get? u = some (kxs_mw i e)) (hz : rest.length ≤ sizeLine)
    (hq : ∀ h' t1, (∀ b o, b ≠ e → h1.get? b = some o → h'.get? b = some o) → h'.get? e = some (excO C t1) → Q .none ⟨h', g, d, tk, os⟩) :
    wpAny (model prog w) A (call (.ref u) rest) Q E ⟨h1, g, d, tk, os⟩ := @NI.run _ (by exact NI.carry : NI.Carry (by
  refine wpAny_call (codeAny_of_tree ?_)
  show wpAny _ A.in1 (callAny (.ref u) ⟨rest, []⟩) _ _ _
  simp only [callAny]
  refine wpAny_bind (wpAny_load hu ?_)
  simp only [kxs_mw, show (Value.type "method-wrapper" == Value.type "method" || Value.type "method-wrapper" == Value.type "builtin_function_or_method" || Value.type "method-wrapper" == Value.type "method-wrapper") = true by decide, if_true]
  refine KFB.if_so (by decide) ?_
  refine wpAny_bind (check_bnd FB hC he rfl ?_)
  refine wpAny_bind (wpAny_pure (wpAny_pure ?_))
  refine ⟨plainId_quiet FB.slot.plain _, codeAny_builtin FB.entry ?_⟩
  exact exc_init_tree (cls := .ref C) (t0 := t0) (dv := none) (c2 := .none) (c3 := .none) (b4 := .bool false) he hz fun h' k e' _ => hq h' _ k e'
))
theorem callWith_bnd {M : Model} {E : Value → Shared → Prop} {s : Shared} {pos : Pos} {env : Env} {x : Expr} {u y : Addr} {Q : Value → Shared → Prop}
    (h : wpAny M A (spliced (backTo pos (starEach [x] env))) (fun us s₁ => KxsAt i u y s₁.heap ∧ wpAny M A (call (.ref u) us) Q E s₁) E s)
    (hx : starEach [x] env = (false, eval x env) :: starEach [] env) : wpAny M A (callWith pos (.ref u) [] (backTo pos (starEach [x] env)) []) Q E s := @NI.run _ (by exact NI.carry : NI.Carry (by
  rw [hx] at h ⊢
  exact kxs_callWith (i := i) (x := y) rfl (evalArgs_plain h)
))
theorem sup_init (KF : KxsFacts B i) (FB : InitF B i)
    (X : K.In hp) (hk1 : ∀ b o, hp.get? b = some o → h1.get? b = some o) (G : hp.Ns mainGlobals mg) (Gb : hp.Ns builtinsNs mb) (hmb : ∀ x : Str, x ≠ "__name__" → mb x = bootBuiltins x) (nl : h1.NoLimit)
    (he : h1.get? e = some (excO C t0)) (hne : hp.get? e = none)
    (hf : K.lookup fI = some ⟨oc, od, .func (ksFn nm qual params (supBody z sl a f) scope dV kV doc pm an (.ref cda) ct cc), osl⟩) (hcI : codeIn K (.ref cda) qual = true)
    (hcode : K.lookup cda = some ⟨ccl, cdd, .fields vs, ccs⟩) (hvs : vs[2]? = some (.str file tf)) (hfile : ((prog.main.file : Str) == file) = true)
    (hcell : K.lookup cc = some ⟨cl, cld, .cell (some (.ref C)), csl⟩)
    (hC : K.lookup C = some (excClassObj cnm cq C cN cbs cbm true csn csub cab ccol cdd2 k0 k1 k2 k3' k5 newId)) (hsuper : mg "super" = none) (hstrM : mg "str" = none)
    (hop : Looks (model prog w) h1 (opaqueClassAbove (.ref C)) none) (hal : alongIn K "__init__" cbm = some (some (.builtin i))) (hB : subIn K (.ref C) (.type B) = some true) (hCC : mroIn K C (.ref C) = some true)
    (hpass : refuseLoop (.ref e) "__setattr__" (.ref C :: cbm) = pure ()) (hob : mroIn K C (.type "object") = some true) (hfa : findIn K (.ref C) f = some none) (hsa : findIn K (.ref C) "__setattr__" = some (some (.builtin "object.__setattr__")))
    (hp1 : (params.posonlyargs ++ params.args).head? = some ar) (har : ar.arg = sl) (hbind : ∀ u1 u2 : Value, bindArgs (ksFn nm qual params (supBody z sl a f) scope dV kV doc pm an (.ref cda) ct cc) ⟨[u1, u2], []⟩ = pure [(sl, u1), (a, u2)])
    (hroom : A.depth < recursionLimit) (hun : A.units + 64 < cLine) (hsla : (a == sl) = false)
    (hk : scope.kind = .function) (hks : scope.names.lookup ("super" : Str) = some .globalImplicit) (hkt : scope.names.lookup ("str" : Str) = some .globalImplicit) (hkc : scope.names.lookup ("__class__" : Str) = some .free) (hkS : scope.names.lookup sl = some .local) (hkA : scope.names.lookup a = some .local)
    (hcells : ∀ x ∈ scope.names, x.2 ≠ .cell) (hco : scope.isCoroutine = false) (hgen : scope.isGenerator = false) (htop : (prog.main.scope.names.lookup ("super" : Str)).isSome = false)
    (hpn : ∀ b o, hp.get? b = some o → H1 b = none ∧ b ∉ fs) (hen : H1 e = none ∧ e ∉ fs) (hfr : ∀ b, h1.objs.size ≤ b → H1 b = none ∧ b ∉ fs) (hbare : AllBare g)
    (hstr : StrOk prog w A fs os H1 h1 v Rv)
    (hev : ∀ L : Addr, ∃ pl : Sem Bool, eval (.Call (.Attribute (.Call (.Name "super" z.p0) [] [] z.p1) "__init__" z.p2) [.Call (.Name "str" z.p3) [.Name a z.p4] [] z.p5] [] z.p6) (ksEnv qual scope L fI (.ref cda) cc) = (do
      let ov ← attributeBase (.Call (.Name "super" z.p0) [] [] z.p1) "__init__" (ksEnv qual scope L fI (.ref cda) cc) (eval (.Call (.Name "super" z.p0) [] [] z.p1) (ksEnv qual scope L fI (.ref cda) cc))
      standAt z.p2.atName
      let (f, first) ← holding [ov] (getMethod ov "__init__" pl)
      callWith z.p6 f first (backTo z.p6 (starEach [.Call (.Name "str" z.p3) [.Name a z.p4] [] z.p5] (ksEnv qual scope L fI (.ref cda) cc))) []))
    (hevS : ∀ L : Addr, eval (.Call (.Name "str" z.p3) [.Name a z.p4] [] z.p5) (ksEnv qual scope L fI (.ref cda) cc) = (do callWith z.p5 (← eval (.Name "str" z.p3) (ksEnv qual scope L fI (.ref cda) cc)) [] (backTo z.p5 (starEach [.Name a z.p4] (ksEnv qual scope L fI (.ref cda) cc))) (backToKw z.p5 (keywordEach [] (ksEnv qual scope L fI (.ref cda) cc)))))
    (hda : (a == ("__debug__" : Str)) = false) (hds : (sl == ("__debug__" : Str)) = false)
    (hint : ∀ L : Addr, interactive (ksEnv qual scope L fI (.ref cda) cc) = false)
    (hsw1 : ∀ L : Addr, swapsWith (.Call (.Attribute (.Call (.Name "super" z.p0) [] [] z.p1) "__init__" z.p2) [.Call (.Name "str" z.p3) [.Name a z.p4] [] z.p5] [] z.p6) none z.p7.line (ksEnv qual scope L fI (.ref cda) cc) = pure false)
    (hsw2 : ∀ L : Addr, swapsWith (.Name a z.q2) (some (.Attribute (.Name sl z.q0) f z.q1)) z.q3.line (ksEnv qual scope L fI (.ref cda) cc) = pure false)
    (hq : ∀ h' g' d' tk' dx t1 h5 H5, AllBare g' → L2.Un fs [] H1 H5 h1 h5 → L2.HOk prog w H5 h5 → Rv H5 → (∀ b o, b ≠ e → h5.get? b = some o → h'.get? b = some o) → H5 dx = none → (∀ b o, h5.get? b = some o → b ≠ dx) → e < dx → h'.get? e = some { cls := .ref C, dict := some dx, data := .fields #[.ref t1, .none, .none, .none, .bool false, .none] } →
      h'.Ns1 dx (fun y => if y = f then some v else none) → R (.ok (.ret .none)) ⟨h', g', d', tk', os⟩) :
    codeAny (model prog w) A (.call (.ref fI) ⟨[.ref e, v], []⟩) R ⟨h1, g, d, tk, os⟩ := @NI.run _ (by exact NI.carry : NI.Carry (by
  have X1 : K.In h1 := X.keeps hk1
  refine ks_codeAny_call_defAt (fd := ksFn nm qual params (supBody z sl a f) scope dV kV doc pm an (.ref cda) ct cc) (body := supBody z sl a f) (binds := [(sl, .ref e), (a, v)]) hroom (X1 _ _ hf) rfl nl (codeRec_of X1 hcI) rfl (.of_eq (hbind _ _)) hcells ?hloc (fun h2 hns hk2 => ?_) hco hgen hk
  case hloc =>
    intro x hx
    rcases List.mem_cons.mp hx with rfl | hx
    · exact hkS
    · obtain rfl := List.mem_singleton.mp hx
      exact hkA
  have hb1 : (([(sl, Value.ref e), (a, v)] : List (Str × Value)).reverse.lookup sl) = some (.ref e) := by
    show ([(a, v), (sl, Value.ref e)] : List (Str × Value)).lookup sl = _
    have : (sl == a) = false := by
      rw [Bool.eq_false_iff] at hsla ⊢
      exact fun q => hsla (by rw [beq_iff_eq.mp q]; exact beq_self_eq_true _)
    simp [List.lookup, this]
  have hb2 : (([(sl, Value.ref e), (a, v)] : List (Str × Value)).reverse.lookup a) = some v := by
    show ([(a, v), (sl, Value.ref e)] : List (Str × Value)).lookup a = _
    simp [List.lookup]
  have X2 : K.In h2 := X1.keeps hk2
  obtain ⟨pl, hpl⟩ := hev h1.objs.size
  refine ks_wpAt_execs_cons (ks_wpAt_Expr_any (ks_wpAt_MethodCall (pl := pl) ?_ hpl) (hi := hint h1.objs.size) (hs := hsw1 h1.objs.size))
  have hks' : (ksEnv qual scope h1.objs.size fI (.ref cda) cc).kindOf "super" = some .globalImplicit := hks
  have hkc' : (ksEnv qual scope h1.objs.size fI (.ref cda) cc).kindOf "__class__" = some .free := hkc
  have he2 : h2.get? e = some (excO C t0) := hk2 _ _ he
  have hC2 : h2.get? C = some (excClassObj cnm cq C cN cbs cbm true csn csub cab ccol cdd2 k0 k1 k2 k3' k5 newId) := X2 _ _ hC
  have hcl : clsIn K C = some { name := cnm, bases := cbs, mro := .ref C :: cbm, ns := cN, qualname := cq, hasDict := true, slotNames := csn, subclasses := csub, abstract := cab, collection := ccol, hasDel := false } := by unfold clsIn; rw [hC] <;> rfl
  have hxC : e ≠ C := fun q => by
    have := X _ _ hC
    rw [← q, hne] at this
    cases this
  subst har
  refine ks_wpAt_super_base (env := ksEnv qual scope h1.objs.size fI (.ref cda) cc) hks' hkc' rfl rfl (X2 _ _ hf) rfl hp1 rfl (X2 _ _ hcode) rfl hvs hfile htop ?_
  refine ks_loadName_global hk hks' (loadGlobal_builtin (env := ksEnv qual scope h1.objs.size fI (.ref cda) cc) ((G.keeps hk1).keeps hk2) hsuper ((Gb.keeps hk1).keeps hk2) ((hmb _ (by decide +kernel)).trans (by kernel_rfl)) ⟨rfl, ?_⟩)
  refine wpAny_loadName_free hk hkc' rfl ⟨_, X2 _ _ hcell, rfl⟩ ?_
  refine wpAny_loadName_local hk (show (ksEnv qual scope h1.objs.size fI (.ref cda) cc).kindOf ar.arg = some .local from hkS) hns hb1 ?_
  refine ks_wpAny_isType_cls hC2 rfl ⟨rfl, ?_⟩
  refine ks_wpAny_call_super hC2 rfl he2 rfl (fun c => by intro q; cases q) (looks_mroIn X2 hCC) (fun h3 e3 k3 => ?_)
  have X3 : K.In h3 := X2.keeps k3
  have he3 : h3.get? e = some (excO C t0) := k3 _ _ he2
  have I3 : InstAt h3 e (excO C t0) C none := ⟨he3, rfl, rfl, trivial⟩
  refine kxs_getMethod KF e3 ((hop.keeps hk2).keeps k3) ((looks_clsIn X3 hcl).andThen .now) (l := cbm) (by simp) X3 hal (I3.type.andThen (looks_subIn X3 hB)) hxC rfl ?_
  have kp : ∀ b o, h3.get? b = some o → (h3.push (kxs_mw i e)).get? b = some o := fun b o q => Heap.get?_push_of_some _ q
  have hu : (h3.push (kxs_mw i e)).get? h3.objs.size = some (kxs_mw i e) := Heap.get?_push_size _ rfl
  have hns3 : (h3.push (kxs_mw i e)).Ns h1.objs.size (fun x => ([(ar.arg, Value.ref e), (a, v)] : List (Str × Value)).reverse.lookup x) := (hns.keeps k3).keeps kp
  have he4 := kp _ _ he3
  have k14 : ∀ b o, h1.get? b = some o → (h3.push (kxs_mw i e)).get? b = some o := fun b o q => kp _ _ (k3 _ _ (hk2 _ _ q))
  generalize h3.push (kxs_mw i e) = h4 at *
  have hse : starEach [.Call (.Name "str" z.p3) [.Name a z.p4] [] z.p5] (ksEnv qual scope h1.objs.size fI (.ref cda) cc) = (false, eval (.Call (.Name "str" z.p3) [.Name a z.p4] [] z.p5) (ksEnv qual scope h1.objs.size fI (.ref cda) cc)) :: starEach [] (ksEnv qual scope h1.objs.size fI (.ref cda) cc) := rfl
  show wpAny (model prog w) _ (callWith z.p6 (.ref h3.objs.size) [] (backTo z.p6 (starEach [.Call (.Name "str" z.p3) [.Name a z.p4] [] z.p5] (ksEnv qual scope h1.objs.size fI (.ref cda) cc))) []) _ _ _
  have hC4 : h4.get? C = some (excClassObj cnm cq C cN cbs cbm true csn csub cab ccol cdd2 k0 k1 k2 k3' k5 newId) := k14 _ _ (X1 _ _ hC)
  have X4 : K.In h4 := X1.keeps k14
  refine callWith_bnd (i := i) (y := e) (PyProof.Rows.args_cons ?_ hse) hse
  have hkt' : (ksEnv qual scope h1.objs.size fI (.ref cda) cc).kindOf "str" = some .globalImplicit := hkt
  refine Call_ (Name_function_global hk hkt' (loadGlobal_builtin (env := ksEnv qual scope h1.objs.size fI (.ref cda) cc) (G.keeps fun b o q => k14 b o (hk1 b o q)) hstrM (Gb.keeps fun b o q => k14 b o (hk1 b o q)) ((hmb _ (by decide +kernel)).trans boot_str) ?_)) ?hCall
  case hCall => exact hevS h1.objs.size
  refine PyProof.Rows.callWith_type1 (PyProof.Rows.args_cons (wpAny_Name (wpAny_loadName_local (m := fun x => ([(ar.arg, Value.ref e), (a, v)] : List (Str × Value)).reverse.lookup x) hk (show (ksEnv qual scope h1.objs.size fI (.ref cda) cc).kindOf a = some .local from hkA) hns3 hb2 (PyProof.Rows.args_nil ?_)) hda) rfl) rfl rfl
  have hL3 : h1.objs.size < h3.objs.size := (hns.keeps k3).lt
  have nL : h1.objs.size ≠ e := Nat.ne_of_gt (Heap.lt_size he)
  obtain ⟨oL, esL, epL, hoL, hdL, hkL, hnL⟩ := id hns3
  refine hstr _ _ _ _ h1.objs.size (ksEnv qual scope h1.objs.size fI (.ref cda) cc) (by simp only [Around.units, Around.deeper, Around.in1] at hun ⊢; omega) (by simp only [Around.units, Around.deeper, Around.in1]; omega) (Nat.le_refl _) rfl rfl (by show scope.kind ≠ _; rw [hk]; decide) rfl
    ⟨oL, hoL, fun vs z => by rw [hdL] at z; cases z⟩ (Nat.le_refl _) k14 rfl hbare fun us s5 H5 ho5 hb5 un5 hok5 hR5 => ?_
  obtain ⟨h5, g5, d5, tk5, os5⟩ := s5
  obtain rfl : os5 = os := ho5
  have kU : ∀ b o, h4.get? b = some o → b ≠ h1.objs.size → H1 b = none → b ∉ fs → h5.get? b = some o := fun b o q n1 n2 n3 => un5.keep b o q n2 (fun z => by
    rcases List.mem_cons.mp z with z | z
    · exact n1 z
    · exact n3 z) (fun z => by cases z)
  have hu5 := kU _ _ hu (Nat.ne_of_gt hL3) (hfr _ (Nat.le_of_lt hL3)).1 (hfr _ (Nat.le_of_lt hL3)).2
  have he5 := kU _ _ he4 nL.symm hen.1 hen.2
  have hb5' : ∀ b o, hp.get? b = some o → h5.get? b = some o := fun b o q => kU b o (k14 b o (hk1 b o q)) (Nat.ne_of_lt (Heap.lt_size (hk1 b o q))) (hpn b o q).1 (hpn b o q).2
  have hns5 : h5.Ns h1.objs.size (fun x => ([(ar.arg, Value.ref e), (a, v)] : List (Str × Value)).reverse.lookup x) := by
    obtain ⟨sl, e5⟩ := un5.slot _ _ hoL (hfr _ (Nat.le_refl _)).1 List.mem_cons_self (fun z => by cases z)
    exact ⟨_, esL, epL, e5, hdL, hkL, hnL⟩
  have un15 : L2.Un fs [] H1 H5 h1 h5 := {
    keep := fun b o q n hb _ => kU b o (k14 b o q) (Nat.ne_of_lt (Heap.lt_size q)) n hb
    slot := fun b o q n hb hx => un5.slot b o (k14 b o q) n (List.mem_cons_of_mem _ hb) hx
    free := fun b o q n hx => un5.free b o (k14 b o q) n hx
    there := fun b o q hx => un5.there b o (k14 b o q) hx
    tups := un5.tups
    frzs := un5.frzs
    tbls := un5.tbls }
  have X5 : K.In h5 := X.keeps hb5'
  have hC5 : h5.get? C = some (excClassObj cnm cq C cN cbs cbm true csn csub cab ccol cdd2 k0 k1 k2 k3' k5 newId) := X5 _ _ hC
  refine PyProof.Rows.args_nil ⟨hu5, ?_⟩
  refine call_bound (rest := [us]) FB hC5 he5 hu5 (by show 1 ≤ sizeLine; decide) fun h6 t6 k6h he6 => ?_
  have hns6 : h6.Ns h1.objs.size (fun x => ([(ar.arg, Value.ref e), (a, v)] : List (Str × Value)).reverse.lookup x) := hns5.at fun o q => k6h _ _ nL q
  have X6 : K.In h6 := X.keeps fun b o q => k6h b o (fun y => by rw [y, hne] at q; cases q) (hb5' b o q)
  refine ks_wpAt_execs_cons (ks_wpAt_Assign_Attr ?_ (hs := hsw2 h1.objs.size))
  refine wpAt_of_wpAny (wpAny_Name (wpAny_loadName_local (m := fun x => ([(ar.arg, Value.ref e), (a, v)] : List (Str × Value)).reverse.lookup x) hk (show (ksEnv qual scope h1.objs.size fI (.ref cda) cc).kindOf a = some .local from hkA) hns6 hb2 ?_) hda)
  refine wpAny_Name (wpAny_loadName_local (m := fun x => ([(ar.arg, Value.ref e), (a, v)] : List (Str × Value)).reverse.lookup x) hk (show (ksEnv qual scope h1.objs.size fI (.ref cda) cc).kindOf ar.arg = some .local from hkS) hns6 hb1 ?_) hds
  refine set_plain X6 (ox := excO C t6) (od := none) ⟨he6, rfl, rfl, trivial⟩ hsa ?_
  refine osa_any X6 he6 hcl hpass hob rfl hfa fun h7 tk7 dx k7 hdx ndx he7 hn7 => ?_
  refine wpAt_of_wpAny (wpAny_execs_nil ?_)
  have hE5 : H5 e = none := un15.free e _ he hen.1 (fun z => by cases z)
  have hok6 : L2.HOk prog w H5 h6 := fun b o q => (hok5 b o q).stay (fun c u hc z => k6h c u (fun y => by
    subst y
    rcases hc with hc | hc
    · rw [← hc, hE5] at q
      cases q
    · rw [hE5] at hc
      cases hc) z) (fun c hc => hc) (fun c xs hc => hc)
  exact hq h7 g5 d5 _ dx t6 h5 H5 hb5 un15 hok5 hR5 (fun b o n q => k7 b o n (k6h b o n q)) (hok6.fresh hdx) (fun b o q z => by
    subst z
    by_cases hb : b = e
    · exact ndx hb
    · exact absurd (Nat.lt_of_lt_of_le (Heap.lt_size (k6h b o hb q)) hdx) (Nat.lt_irrefl _)) (Nat.lt_of_lt_of_le (Heap.lt_size he6) hdx) he7 hn7
))
end
end Wo
namespace Wo
open PySem PySem.Spec PyProof.Rows L2
structure SupX (P : Program) (w : World) (K : PySem.W.Frag) (mg : Str → Option Value) (C : Addr) (f : Str) : Prop where
  run : ∃ (fI : Addr) (newId : String) (tail : List Value), OwnF newId tail ∧ PySem.W.findIn K (.ref C) "__init__" = some (some (.ref fI)) ∧ PySem.W.typeIn K (.ref fI) = some (.type "function") ∧
    (∃ nm q N bs sn sub ab col dd k0 k1 k2 k3 k5, K.lookup C = some (excClassObj nm q C N bs tail true sn sub ab col dd k0 k1 k2 k3 k5 newId)) ∧
    ∀ (A : Around) (R : Result → Shared → Prop) (hp h1 : Heap) (g : Array GenState) (d : Drawn) (tk : Nat) (os : OsState) (e t0 : Addr) (v : Value) (mb : Str → Option Value), K.In hp → (∀ b o, hp.get? b = some o → h1.get? b = some o) → hp.Ns mainGlobals mg → hp.Ns builtinsNs mb →
      (∀ x : Str, x ≠ "__name__" → mb x = bootBuiltins x) → h1.NoLimit → h1.get? e = some (PySem.HandSPX.excO C t0) → hp.get? e = none → A.depth < recursionLimit → A.units + 64 < cLine →
      ∀ (fs : List Addr) (H1 : Hp) (Rv : Hp → Prop), (∀ b o, hp.get? b = some o → H1 b = none ∧ b ∉ fs) → (H1 e = none ∧ e ∉ fs) → (∀ b, h1.objs.size ≤ b → H1 b = none ∧ b ∉ fs) → AllBare g → StrOk P w A fs os H1 h1 v Rv →
      (∀ h' g' d' tk' dx t1 h5 H5, AllBare g' → Un fs [] H1 H5 h1 h5 → HOk P w H5 h5 → Rv H5 → (∀ b o, b ≠ e → h5.get? b = some o → h'.get? b = some o) → H5 dx = none → (∀ b o, h5.get? b = some o → b ≠ dx) → e < dx → h'.get? e = some { cls := .ref C, dict := some dx, data := .fields #[.ref t1, .none, .none, .none, .bool false, .none] } →
        h'.Ns1 dx (fun y => if y = f then some v else none) → R (.ok (.ret .none)) ⟨h', g', d', tk', os⟩) → codeAny (model P w) A (.call (.ref fI) ⟨[.ref e, v], []⟩) R ⟨h1, g, d, tk, os⟩
  exC : PySem.W.subIn K (.ref C) (.type "BaseException") = some true
  tyC : PySem.W.typeIn K (.ref C) = some (.type "type")
  kC : PySem.W.keepIn K (.ref C) = true
def StrV : V → Prop
  | .int i => i.natAbs.log2 < 1920
  | .non => True
  | .bl _ => True
  | .str _ => True
  | _ => False
def StrT (xs : List V) : Prop := ∃ ts : List Str, (∀ us, Vals xs us → ∀ (prog : Program) (w : World), ReprAll prog w us ts) ∧ 0 + (tupleText ts).length ≤ sizeLine
def StrH (H : Hp) : V → Prop
  | .ref p => ∃ xs, H p = some (.tup xs) ∧ StrT xs
  | v => StrV v
theorem StrT.nil : StrT [] := ⟨[], fun us h => by cases h; exact fun _ _ => .nil, by decide⟩
theorem StrH.unit {H : Hp} {p : Addr} (h : H p = some (.tup [])) : StrH H (.ref p) := ⟨_, h, .nil⟩
theorem StrH.to {H H' : Hp} {v : V} (e : ∀ p xs, H p = some (.tup xs) → H' p = some (.tup xs)) (h : StrH H v) : StrH H' v := @NI.run _ (by exact NI.carry : NI.Carry (by
  cases v with
  | ref p =>
    obtain ⟨xs, h1, h2⟩ := h
    exact ⟨xs, e _ _ h1, h2⟩
  | _ => exact h
))
end Wo
end
section
namespace Wo
open PySem PySem.Spec PyProof.Rows L2
end Wo
end
section
namespace Wo
open PySem PySem.Spec PyProof.Rows L2
def atW (W : WX) (σ : L2.St) : XK := fun cls d H => W cls d σ H
def ofE (E : XK) : WX := fun cls d _ H => E cls d H
section
variable {P : Program} {w : World} {K : PySem.W.Frag} {mg : Str → Option Value} {base : Heap} {N : List Str} {qual : Str} {scope : Scope} {f : Addr} {cd : Value} {A : Around} {outer : List Env} {s : Shared} {H : Hp} {E : XK}
theorem takesE : Takes (cxOf (CXW P w) P w K mg base N qual scope f cd A outer s H E) (ofE E) := takes_of rfl rfl rfl rfl
end
section
variable {X : Cx} {k j : Nat} {f : Addr} {sp : Sp} {W : WX} {x : Str} {p pos : Pos} {e : Expr} {es : List Expr} {t : TA}
def tCallW (sp : Sp) (W : WX) (t : TA) : TE := fun σ H Q => t σ H fun vs H1 => sp vs H1 Q (atW W σ)
theorem run_W {pins : List (Addr × Obj)} {σ : L2.St} {H : Hp} {s : Shared} {Q : VK} {us : List Value} {vs : List V} (F : FnR X.prog X.w X.K X.mg X.base (CXW X.prog X.w) k f sp) (hr : Room k X.A) (tk : Takes X W)
    (I : L2.Inv X pins σ H s) (r : Vals vs us) (h : sp vs H Q (atW W σ)) : wpAny (model X.prog X.w) X.A (call (.ref f) us) (EP X pins σ Q) X.xe s := @NI.run _ (by exact NI.carry : NI.Carry (by
  refine wpAny_call (codeAny_mono (F X.A X.stack s H us vs Q (atW W σ) hr I.env0 r h) fun r s' hq => ?_)
  cases r with
  | error e => exact tk e s' (XE.of_call I (fun cls d H' z => z) hq)
  | ok fl =>
    cases fl with
    | ret u => exact I.after hq
    | next => exact False.elim hq
    | brk => exact False.elim hq
    | cont => exact False.elim hq
))
end
end Wo
end
section
namespace Wo
open PySem PySem.Spec PySem.W PySem.Calls PyProof.Rows L2
def zOf : List Stmt → SupPos
  | [.Expr (.Call (.Attribute (.Call (.Name _ p0) _ _ p1) _ p2) (.Call (.Name _ p3) (.Name _ p4 :: _) _ p5 :: _) _ p6) p7, .Assign (.Attribute (.Name _ q0) _ q1 :: _) (.Name _ q2) q3] => ⟨p0, p1, p2, p3, p4, p5, p6, p7, q0, q1, q2, q3⟩
  | _ => ⟨⟨0,0,0,0⟩, ⟨0,0,0,0⟩, ⟨0,0,0,0⟩, ⟨0,0,0,0⟩, ⟨0,0,0,0⟩, ⟨0,0,0,0⟩, ⟨0,0,0,0⟩, ⟨0,0,0,0⟩, ⟨0,0,0,0⟩, ⟨0,0,0,0⟩, ⟨0,0,0,0⟩, ⟨0,0,0,0⟩⟩
structure Bas (B newId i : String) (bm : List Value) : Prop where
  IF : InitF B i
  OF : OwnF newId bm
  KF : KxsFacts B i
  SF : StoreFacts B bm "object.__setattr__" "object"
abbrev bmIndex : List Value := [.type "IndexError", .type "LookupError", .type "Exception", .type "BaseException", .type "object"]
abbrev bmOver : List Value := [.type "OverflowError", .type "ArithmeticError", .type "Exception", .type "BaseException", .type "object"]
theorem bas_IndexError : Bas "IndexError" "IndexError.__new__" "IndexError.__init__" bmIndex := ⟨.of F.excBase_IndexError, .of F.excBase_IndexError (fun _ => rfl), kxs_IndexError, F.store_IndexError⟩
theorem bas_OverflowError : Bas "OverflowError" "OverflowError.__new__" "OverflowError.__init__" bmOver := ⟨.of F.excBase_OverflowError, .of F.excBase_OverflowError (fun _ => rfl), kxs_OverflowError, F.store_OverflowError⟩
def fnE (K : Frag) (a : Addr) : He.FnW := match K.lookup a with
  | some ⟨_, _, .func fd, _⟩ => some (fd.name, fd.qualname, fd.params, fd.body, fd.scope, fd.globals, fd.closure.map fun p => (p.1, 0), fd.builtins)
  | _ => none
structure SupD where
  cls : Str
  qual : Str
  params : Arguments
  body : List Stmt
  scope : Scope
def SupD.val (d : SupD) : He.FnW := some ("__init__", d.qual, d.params, .stmts d.body, d.scope, mainGlobals, [("__class__", 0)], builtinsNs)
def bFileV (v : Option Value) (file : Str) : Bool := match v with
  | some (.str y _) => decide (y = file)
  | _ => false
def bFile (K : Frag) (cda : Addr) (file : Str) : Bool := match K.lookup cda with
  | some ⟨_, _, .fields vs, _⟩ => bFileV vs[2]? file
  | _ => false
def bCellC (K : Frag) (cc C : Addr) : Bool := match K.lookup cc with
  | some ⟨_, _, .cell (some (.ref D)), _⟩ => decide (D = C)
  | _ => false
def bCodC (K : Frag) (C : Addr) (qual file : Str) (cv : Value) (cl : List (Str × Addr)) : Bool := match cv, cl with
  | .ref cda, (_, cc) :: _ => codeIn K (.ref cda) qual && (bFile K cda file && bCellC K cc C)
  | _, _ => false
theorem bCodC_ok {K : Frag} {C : Addr} {qual file : Str} {cv : Value} {cl : List (Str × Addr)} (c : bCodC K C qual file cv cl = true) (h : cl.map (fun p => (p.1, (0 : Addr))) = [(("__class__" : Str), (0 : Addr))]) :
    ∃ cda cc, cv = .ref cda ∧ cl = [(("__class__" : Str), cc)] ∧ codeIn K (.ref cda) qual = true ∧ bFile K cda file = true ∧ bCellC K cc C = true := @NI.run _ (by exact NI.carry : NI.Carry (by
  unfold bCodC at c
  split at c
  · rename_i cda nn cc rest
    obtain ⟨d1, d2⟩ := He.ba c
    obtain ⟨d2, d3⟩ := He.ba d2
    obtain ⟨h7a, h7b⟩ := List.cons.inj h
    have hr : rest = [] := List.map_eq_nil_iff.mp h7b
    have hn : nn = ("__class__" : Str) := congrArg Prod.fst h7a
    subst hr hn
    exact ⟨_, _, rfl, rfl, d1, d2, d3⟩
  · cases c
))
def bInitE (K : Frag) (fI C : Addr) (qual file : Str) : Bool := match K.lookup fI with
  | some ⟨_, _, .func fd, _⟩ => decide (fd.defaults = .none) && bCodC K C qual file fd.code fd.closure
  | _ => false
def bExcC (K : Frag) (C : Addr) (bm : List Value) (newId : String) : Bool := match K.lookup C with
  | some ⟨.type "type", _, .cls cd, sl⟩ => (match cd.mro, sl.toList with
    | .ref D :: bm', [_, _, _, _, some (.builtin n), _] => decide (D = C) && (decide (bm' = bm) && (decide (n = newId) && (!cd.hasDel && cd.hasDict)))
    | _, _ => false)
  | _ => false
theorem bExcC_ok {K : Frag} {C : Addr} {bm : List Value} {newId : String} (q : bExcC K C bm newId = true) : ∃ nm qn N bs sn sub ab col dd k0 k1 k2 k3 k5, K.lookup C = some (excClassObj nm qn C N bs bm true sn sub ab col dd k0 k1 k2 k3 k5 newId) := @NI.run _ (by exact NI.carry : NI.Carry (by
  unfold bExcC at q
  split at q
  · rename_i dd cd sl ho
    split at q
    · rename_i C' bm' k0 k1 k2 k3 n k5 hm hs
      obtain ⟨c1, q⟩ := He.ba q
      obtain ⟨c2, q⟩ := He.ba q
      obtain ⟨c3, q⟩ := He.ba q
      obtain ⟨c4, c5⟩ := He.ba q
      have e1 := of_decide_eq_true c1
      have e2 := of_decide_eq_true c2
      have e3 := of_decide_eq_true c3
      subst e1 e2 e3
      obtain ⟨nm, bs, mro, ns, qn, hd, sn, sub, ab, col, del⟩ := cd
      dsimp only at hm c4 c5
      have c4' : del = false := by simpa using c4
      subst hm c4' c5
      have hsl : sl = #[k0, k1, k2, k3, some (.builtin n), k5] := by
        obtain ⟨l⟩ := sl
        simp only at hs
        rw [hs]
      subst hsl
      exact ⟨nm, qn, ns, bs, sn, sub, ab, col, dd, k0, k1, k2, k3, k5, ho⟩
    · cases q
  · cases q
))
def bmOf (pre : Frag → List Addr) (bm : List Value) (K : Frag) : List Value := (pre K).map Value.ref ++ bm
def fSup (x f qual file : Str) (B newId i : String) (pre : Frag → List Addr) (bm : List Value) (K : Frag) : Bool :=
  bInitE K (mA x "__init__" K) (gA x K) qual file && (bExcC K (gA x K) (bmOf pre bm K) newId && (He.eqO (findIn K (.ref (gA x K)) "__init__") (some (some (.ref (mA x "__init__" K)))) &&
  (decide (typeIn K (.ref (mA x "__init__" K)) = some (.type "function")) && (He.eqO (nsIn K cStatics "thirdparty.any") (some none) && (He.eqO (alongIn K "__init__" (bmOf pre bm K)) (some (some (.builtin i))) &&
  (decide (subIn K (.ref (gA x K)) (.type B) = some true) && (decide (mroIn K (gA x K) (.ref (gA x K)) = some true) && (decide (mroIn K (gA x K) (.type "object") = some true) && (He.eqO (findIn K (.ref (gA x K)) f) (some none) &&
  (He.eqO (findIn K (.ref (gA x K)) "__setattr__") (some (some (.builtin "object.__setattr__"))) && (decide (subIn K (.ref (gA x K)) (.type "BaseException") = some true) && (decide (typeIn K (.ref (gA x K)) = some (.type "type")) && keepIn K (.ref (gA x K))))))))))))))
section
variable {P : Program} {w : World} {K : Frag} {mg : Str → Option Value} {x f a sl qual file : Str} {B newId i : String} {bm : List Value} {params : Arguments} {body : List Stmt} {scope : Scope} {ar : Arg}
theorem bmOf_has {pre : Frag → List Addr} {T : String} : (bmOf pre bm K).contains (.type T) = bm.contains (.type T) := @NI.run _ (by exact NI.carry : NI.Carry (by
  unfold bmOf
  induction pre K with
  | nil => rfl
  | cons a l ih =>
    rw [List.map_cons, List.cons_append, List.contains_cons, ih]
    rfl
))
theorem bmOf_pass {pre : Frag → List Addr} {e : Addr} {s : Str} (h : refuseLoop (.ref e) s bm = pure ()) : refuseLoop (.ref e) s (bmOf pre bm K) = pure () := @NI.run _ (by exact NI.carry : NI.Carry (by
  unfold bmOf
  induction pre K with
  | nil => exact h
  | cons a l ih =>
    rw [List.map_cons, List.cons_append]
    exact (refuseLoop_ref _ _ _ _).trans ih
))
theorem fSup_ok {pre : Frag → List Addr} (b : Bas B newId i bm) (c : fSup x f qual file B newId i pre bm K = true) (e : fnE K (mA x "__init__" K) = (some ("__init__", qual, params, FuncBody.stmts body, scope, mainGlobals, [("__class__", 0)], builtinsNs) : He.FnW))
    (hfile : ((P.main.file : Str) == file) = true) (htop : (P.main.scope.names.lookup ("super" : Str)).isSome = false) (hsuper : mg "super" = none) (hstr : mg "str" = none)
    (hb : body = supBody (zOf body) sl a f) (hp1 : (params.posonlyargs ++ params.args).head? = some ar) (har : ar.arg = sl)
    (hbind : ∀ (bd : List Stmt) (kV doc pm : Value) (an : Option Addr) (cdv ct : Value) (cc : Addr) (u1 u2 : Value), bindArgs (ksFn "__init__" qual params bd scope .none kV doc pm an cdv ct cc) ⟨[u1, u2], []⟩ = pure [(sl, u1), (a, u2)])
    (hsla : (a == sl) = false) (hda : (a == ("__debug__" : Str)) = false) (hds : (sl == ("__debug__" : Str)) = false)
    (hk : scope.kind = .function) (hks : scope.names.lookup ("super" : Str) = some .globalImplicit) (hkt : scope.names.lookup ("str" : Str) = some .globalImplicit) (hkc : scope.names.lookup ("__class__" : Str) = some .free) (hkS : scope.names.lookup sl = some .local) (hkA : scope.names.lookup a = some .local)
    (hcells : ∀ x ∈ scope.names, x.2 ≠ .cell) (hco : scope.isCoroutine = false) (hgen : scope.isGenerator = false)
    (hev : ∀ (L fI : Addr) (cdv : Value) (cc : Addr), ∃ pl : Sem Bool, eval (.Call (.Attribute (.Call (.Name "super" (zOf body).p0) [] [] (zOf body).p1) "__init__" (zOf body).p2) [.Call (.Name "str" (zOf body).p3) [.Name a (zOf body).p4] [] (zOf body).p5] [] (zOf body).p6) (ksEnv qual scope L fI cdv cc) = (do
      let ov ← attributeBase (.Call (.Name "super" (zOf body).p0) [] [] (zOf body).p1) "__init__" (ksEnv qual scope L fI cdv cc) (eval (.Call (.Name "super" (zOf body).p0) [] [] (zOf body).p1) (ksEnv qual scope L fI cdv cc))
      standAt (zOf body).p2.atName
      let (f, first) ← holding [ov] (getMethod ov "__init__" pl)
      callWith (zOf body).p6 f first (backTo (zOf body).p6 (starEach [.Call (.Name "str" (zOf body).p3) [.Name a (zOf body).p4] [] (zOf body).p5] (ksEnv qual scope L fI cdv cc))) []))
    (hevS : ∀ (L fI : Addr) (cdv : Value) (cc : Addr), eval (.Call (.Name "str" (zOf body).p3) [.Name a (zOf body).p4] [] (zOf body).p5) (ksEnv qual scope L fI cdv cc) = (do callWith (zOf body).p5 (← eval (.Name "str" (zOf body).p3) (ksEnv qual scope L fI cdv cc)) [] (backTo (zOf body).p5 (starEach [.Name a (zOf body).p4] (ksEnv qual scope L fI cdv cc))) (backToKw (zOf body).p5 (keywordEach [] (ksEnv qual scope L fI cdv cc)))))
    (hint : ∀ (L fI : Addr) (cdv : Value) (cc : Addr), interactive (ksEnv qual scope L fI cdv cc) = false)
    (hsw1 : ∀ (L fI : Addr) (cdv : Value) (cc : Addr), swapsWith (.Call (.Attribute (.Call (.Name "super" (zOf body).p0) [] [] (zOf body).p1) "__init__" (zOf body).p2) [.Call (.Name "str" (zOf body).p3) [.Name a (zOf body).p4] [] (zOf body).p5] [] (zOf body).p6) none (zOf body).p7.line (ksEnv qual scope L fI cdv cc) = pure false)
    (hsw2 : ∀ (L fI : Addr) (cdv : Value) (cc : Addr), swapsWith (.Name a (zOf body).q2) (some (.Attribute (.Name sl (zOf body).q0) f (zOf body).q1)) (zOf body).q3.line (ksEnv qual scope L fI cdv cc) = pure false) : SupX P w K mg (gA x K) f := @NI.run _ (by exact NI.carry : NI.Carry (by
  obtain ⟨FB, OF, KF, SF⟩ := b
  obtain ⟨c1, c⟩ := He.ba c
  obtain ⟨c2, c⟩ := He.ba c
  obtain ⟨c3, c⟩ := He.ba c
  obtain ⟨c4, c⟩ := He.ba c
  obtain ⟨c5, c⟩ := He.ba c
  obtain ⟨c6, c⟩ := He.ba c
  obtain ⟨c7, c⟩ := He.ba c
  obtain ⟨c8, c⟩ := He.ba c
  obtain ⟨c9, c⟩ := He.ba c
  obtain ⟨c10, c⟩ := He.ba c
  obtain ⟨c11, c⟩ := He.ba c
  obtain ⟨c12, c⟩ := He.ba c
  obtain ⟨c13, c14⟩ := He.ba c
  generalize mA x "__init__" K = fI at *
  generalize gA x K = C at *
  obtain ⟨nm, qn, N, bs, sn, sub, ab, col, dd, k0, k1, k2, k3, k5, hC⟩ := bExcC_ok c2
  refine ⟨⟨fI, newId, bmOf pre bm K, (OF.elim fun B0 q => q.elim fun i0 q => q.elim fun bm0 q => ⟨B0, i0, bm0, q.1, by rw [bmOf_has, q.2.1], by rw [bmOf_has, q.2.2.1], by rw [bmOf_has, q.2.2.2]⟩), He.eqO_ok c3, of_decide_eq_true c4, ⟨nm, qn, N, bs, sn, sub, ab, col, dd, k0, k1, k2, k3, k5, hC⟩, ?_⟩, of_decide_eq_true c12, of_decide_eq_true c13, c14⟩
  unfold fnE at e
  unfold bInitE at c1
  cases q : K.lookup fI with
  | none => rw [q] at c1; cases c1
  | some o =>
    obtain ⟨oc, od, dt, osl⟩ := o
    rw [q] at c1 e
    cases dt with
    | func fd =>
      obtain ⟨n1, n2, n3, n4, n5, n6, n7, n8, n9, n10, n11, n12, n13, n14, n15⟩ := fd
      have e2 : (some (n1, n2, n3, n4, n5, n6, n7.map (fun p => (p.1, 0)), n15) : He.FnW) = (some (("__init__" : Str), qual, params, FuncBody.stmts body, scope, mainGlobals, [(("__class__" : Str), (0 : Addr))], builtinsNs) : He.FnW) := e
      simp only [Option.some.injEq, Prod.mk.injEq] at e2
      obtain ⟨h1, h2, h3, h4, h5, h6, h7, h8⟩ := e2
      subst h1 h2 h3 h4 h5 h6 h8
      have c1' : (decide (n8 = .none) && bCodC K C n2 file n13 n7) = true := c1
      obtain ⟨cd, c1'⟩ := He.ba c1'
      have cd' : n8 = .none := of_decide_eq_true cd
      subst cd'
      obtain ⟨cda, cc, rfl, rfl, d1, d2, d3⟩ := bCodC_ok (K := K) (C := C) (qual := n2) (file := file) (cv := n13) (cl := n7) c1' h7
      · skip
        unfold bFile at d2
        split at d2
        · rename_i ccl cdd vs ccs qa
          unfold bFileV at d2
          split at d2
          · rename_i y tf qb
            have d2' := of_decide_eq_true d2
            subst d2'
            unfold bCellC at d3
            split at d3
            · rename_i cl cld D csl qc
              have d3' := of_decide_eq_true d3
              subst d3'
              rw [hb] at q
              intro A R hp h1 g d tk os e t0 v mb X hk1 G Gb hmb nl he hne hroom hun fs H1 Rv hpn hen hfr hbare hstrOk hq
              have X1 : K.In h1 := X.keeps hk1
              exact sup_init KF FB X hk1 G Gb hmb nl he hne q d1 qa qb hfile qc hC hsuper hstr (looks_opaque X1 (He.eqO_ok c5)) (He.eqO_ok c6) (of_decide_eq_true c7) (of_decide_eq_true c8)
                ((refuseLoop_ref _ _ _ _).trans (bmOf_pass (SF.passes _))) (of_decide_eq_true c9) (He.eqO_ok c10) (He.eqO_ok c11) hp1 har (hbind _ _ _ _ _ _ _ _) hroom hun hsla hk hks hkt hkc hkS hkA hcells hco hgen htop hpn hen hfr hbare hstrOk
                (fun L => hev L _ _ _) (fun L => hevS L _ _ _) hda hds (fun L => hint L _ _ _) (fun L => hsw1 L _ _ _) (fun L => hsw2 L _ _ _) hq
            · cases d3
          · cases d2
        · cases d2
    | _ => cases c1
))
end
structure EX where
  ad : Pa
  val : He.FnW
abbrev AlY : Type := AlX × List He.FnW
def obsY (fs : List (Frag → Bool)) (ds : List DefX) (es : List EX) (K : Frag) : AlY := (obsX fs ds K, es.map fun e => fnE K (e.ad K))
def valY (ds : List DefX) (es : List EX) : AlY := (valX ds, es.map EX.val)
def SaysY (fs : List (Frag → Bool)) (ds : List DefX) (es : List EX) (K : Frag) : Prop := obsY fs ds es K = valY ds es
section
variable {fs : List (Frag → Bool)} {ds : List DefX} {es : List EX} {K : Frag}
theorem SaysY.x (c : SaysY fs ds es K) : SaysX fs ds K := congrArg (fun z : AlY => z.1) c
theorem SaysY.ex (c : SaysY fs ds es K) (i : Nat) {d : EX} (h : es[i]? = some d := by rfl) : fnE K (d.ad K) = d.val := @NI.run _ (by exact NI.carry : NI.Carry (by
  have e : es.map (fun e => fnE K (e.ad K)) = es.map EX.val := congrArg (fun z : AlY => z.2) c
  have e2 : (es.map fun e => fnE K (e.ad K))[i]? = (es.map EX.val)[i]? := by rw [e]
  rw [List.getElem?_map, List.getElem?_map, h] at e2
  exact Option.some.inj e2
))
end
structure OwnX (K : Frag) (C : Addr) : Prop where
  ex : ∃ B newId i bm, ExcBaseFacts B newId i bm ∧ excIn K C bm newId = true
  exC : subIn K (.ref C) (.type "BaseException") = some true
  tyC : typeIn K (.ref C) = some (.type "type")
  kC : keepIn K (.ref C) = true
abbrev bmValue : List Value := [.type "ValueError", .type "Exception", .type "BaseException", .type "object"]
def fOwnV (x : Str) (K : Frag) : Bool := excIn K (gA x K) bmValue "ValueError.__new__" && (decide (subIn K (.ref (gA x K)) (.type "BaseException") = some true) && (decide (typeIn K (.ref (gA x K)) = some (.type "type")) && keepIn K (.ref (gA x K))))
theorem fOwnV_ok {K : Frag} {x : Str} (c : fOwnV x K = true) : OwnX K (gA x K) := @NI.run _ (by exact NI.carry : NI.Carry (by
  obtain ⟨c1, c⟩ := He.ba c
  obtain ⟨c2, c⟩ := He.ba c
  obtain ⟨c3, c4⟩ := He.ba c
  exact ⟨⟨_, _, _, _, F.excBase_ValueError, c1⟩, of_decide_eq_true c2, of_decide_eq_true c3, c4⟩
))
def fXf (x : Str) (K : Frag) : Bool := xfB K (gA x K)
theorem fXf_ok {K : Frag} {x : Str} (c : fXf x K = true) : XfC K (gA x K) := xfB_ok c
end Wo
end
section
namespace Wo
open PySem PySem.Spec PyProof.Rows L2 PySem.Calls
section
open PySem.W
variable {prog : Program} {w : World} {A : Around} {E : Value → Shared → Prop} {s : Shared} {K : Frag} {x y C f : Addr} {ox od oy : Obj} {name : Str} {id B : String}
theorem ifBound_blt {args : List Value} {Q : Option Value → Shared → Prop} {od : Option Obj} {M : Model} (X : K.In s.heap) (I : InstAt s.heap x ox C od) (hs : findIn K (.ref C) name = some (some (.builtin id))) (S : Slot B name id)
    (h : wpAny M A (call (.builtin id) (.ref x :: args)) (fun v => Q (some v)) E s) : wpAny M A (callSpecialIfBound? (.ref x) name args) Q E s := @NI.run _ (by exact NI.carry : NI.Carry (by
  simp only [callSpecialIfBound?, bindSpecialIfBound?]
  refine wpAny_holding (wpAny_bind (wpAny_bind (wpAny_bind (I.type.here ((looks_findIn X hs).here ?_)))))
  simp only [S.bind]
  refine wpAny_bind (wpAny_askSetting (wpAny_ite ?_))
  have fin : wpAny M A (call (.builtin id) ([.ref x] ++ args) >>= fun v => pure (some v)) Q E s := wpAny_bind (wpAny_mono h (fun v s' h' => wpAny_pure h') fun _ _ h' => h')
  split
  · exact wpAny_bind (wpAny_pure (wpAny_pure (by exact fin)))
  · exact wpAny_tryCatch (wpAny_bind (wpAny_pure (wpAny_pure (by exact fin))))
))
theorem ne_own {Q : Value → Shared → Prop} {od' : Option Obj} (hu : A.units + 1 < cLine) (X : K.In s.heap) (I : InstAt s.heap x ox C (some od)) (I' : InstAt s.heap y oy C od') (he : findIn K (.ref C) "__eq__" = some (some (.ref f))) (hf : isFn K (.ref f) = true)
    (hne : findIn K (.ref C) "__ne__" = some (some (.builtin "object.__ne__"))) (hob : mroIn K C (.type "object") = some true)
    (h : wpAny (model prog w) A.in1 (call (.ref f) [.ref x, .ref y]) (fun v s' => ∃ b, v = .bool b ∧ Q (.bool (!b)) s') E s) : wpAny (model prog w) A (richCompare .NotEq (.ref x) (.ref y)) Q E s := @NI.run _ (by exact NI.carry : NI.Carry (by
  have FB := F.cmp_object
  obtain ⟨hp, g, d, t, os⟩ := s
  have sub : Looks (model prog w) hp (isInstance (.ref x) (.type "object")) true := I.type.andThen (looks_mroIn X hob)
  unfold richCompare
  simp only [oneThing_ref]
  refine wpAny_holding (wpAny_bind (wpAny_cRoomFor (Nat.lt_of_succ_lt hu) ?_))
  rw [cmpInfo_NotEq]
  dsimp only
  refine wpAny_bind (I.type.here (wpAny_bind (I'.type.here ?_)))
  rw [show (Value.ref C != Value.ref C) = false from by simp]
  simp only [Bool.false_eq_true, if_false]
  refine wpAny_bind (wpAny_pure ?_)
  simp only [Bool.false_eq_true, if_false]
  refine wpAny_bind (wpAny_mono (Q := fun r s' => ∃ b, r = some (Value.bool (!b)) ∧ Q (.bool (!b)) s') ?_ (fun r s' z => ?_) fun _ _ e => e)
  · simp only [tryCompare]
    refine wpAny_bind (ifBound_blt X I hne FB.ne (wpAny_call (codeAny_call_builtin FB.ne.plain F.cmpEntry_ne (check_slot F.cmpKind_ne F.cmpSplit_ne sub (F.cmpArgs_ne _ _) ?_))))
    unfold Builtin.«object.__ne__»
    repeat (first
      | with_reducible refine wpAny_cRoomFor hu ?_
      | (refine wpAny_bind (m := callSpecialIfBound? (.ref x) (Str.ofString "__eq__") [.ref y])
          (ifBound_K X I he hf (wpAny_mono h (fun r s' hr => by
            obtain ⟨b, rfl, hq⟩ := hr
            repeat (first | exact ⟨b, rfl, hq⟩ | exact ⟨b, rfl, wpAny_pure ⟨b, rfl, hq⟩⟩ | exact wpAny_pure ⟨b, rfl, wpAny_pure ⟨b, rfl, hq⟩⟩ | (refine wpAny_bind (m := truthy (.bool _)) (wpAny_truthy_bool ?_)) | wp_step)) fun _ _ e => e)))
      | wp_step)
  · obtain ⟨b, rfl, hq⟩ := z
    exact wpAny_pure hq
))
end
section
variable {X : Cx} {n : Nat} {C g : Addr}
theorem rcB_ratN (F : FnR X.prog X.w X.K X.mg X.base (CXW X.prog X.w) n g (sp_eqQ C)) (O : OwnM X.K C "__eq__" g) (hne : PySem.W.findIn X.K (.ref C) "__ne__" = some (some (.builtin "object.__ne__"))) (hob : PySem.W.mroIn X.K C (.type "object") = some true) :
    RcB X (n + 1) .NotEq true (RQ C) := @NI.run _ (by exact NI.carry : NI.Carry (by
  intro A pins s σ H x y u v a b sb I rx ry h1 h2
  obtain ⟨p, dx, rfl, s1⟩ := id h1
  obtain ⟨q, dy, rfl, s2⟩ := id h2
  cases rx
  cases ry
  obtain ⟨sl, od, _, J, _⟩ := SlX.slt_inst I s1
  obtain ⟨sl', od', _, J', _⟩ := SlX.slt_inst I s2
  have e0 : Env0 X.prog X.w X.K X.mg X.base A X.stack s H := by
    have e := I.env0
    exact ⟨by rw [sb.fr]; exact e.frames, e.mod, e.bs, e.bsz, e.funs, e.frf, e.hok, e.bare⟩
  refine ne_own (by have := sb.room.in1.units0; exact this) I.kIn J J' O.at_ O.fn hne hob ?_
  refine wpAny_mono (wpAny_call (SlX.run_at (A := A.in1) (us := [.ref p, .ref q]) (ws := [.ref p, .ref q]) (Q := fun v H' => v = .bl (decide (a = b)) ∧ H' = H) (E := E0) F sb.room.in1 e0.in1 passF I (.cons rfl (.cons rfl .nil)) ⟨_, _, rfl, a, b, h1, h2, rfl, rfl⟩)) (fun w s' z => ?_) fun _ _ x => x
  obtain ⟨z', H', I', rz, ez, eH⟩ := z
  subst ez eH
  cases (show w = Value.bool _ from rz)
  exact ⟨decide (a = b), rfl, _, rfl, by by_cases h : a = b <;> simp [h], _, I', Same.refl _⟩
))
theorem nc_rat {P : Program} {w : World} {K : PySem.W.Frag} {mg : Str → Option Value} {base : Heap} {m : Nat} (F : FnR P w K mg base (CXW P w) m g (sp_eqQ C)) (O : OwnM K C "__eq__" g) (hne : PySem.W.findIn K (.ref C) "__ne__" = some (some (.builtin "object.__ne__"))) (hob : PySem.W.mroIn K C (.type "object") = some true) (h : m + 1 ≤ n) :
    NeC P w K mg base n (RQ C) := fun X l => by
  obtain ⟨rfl, rfl, rfl, rfl, rfl⟩ := l
  exact (rcB_ratN F O hne hob).mono h
end
def fKitB (x : Str) (t : String) (b : Bool) (K : PySem.W.Frag) : Bool := decide (PySem.W.kitOne K (.ref (gA x K)) (.type t) = some b)
theorem fKitB_ok {x : Str} {t : String} {b : Bool} {K : PySem.W.Frag} (c : fKitB x t b K = true) : PySem.W.kitOne K (.ref (gA x K)) (.type t) = some b := of_decide_eq_true c
def fFindB (x m : Str) (b : String) (K : PySem.W.Frag) : Bool := He.eqO (PySem.W.findIn K (.ref (gA x K)) m) (some (some (.builtin b)))
theorem fFindB_ok {K : PySem.W.Frag} {x m : Str} {b : String} (c : fFindB x m b K = true) : PySem.W.findIn K (.ref (gA x K)) m = some (some (.builtin b)) := He.eqO_ok c
end Wo
end
section
namespace Wo
open PySem PySem.Spec PyProof.Rows L2
theorem op_or {X : Cx} {f : Value → Value → Sem Value} {r1 r2 : R2} (h1 : OpR X f r1) (h2 : OpR X f r2) : OpR X f (fun x y H Q => r1 x y H Q ∨ r2 x y H Q) := @NI.run _ (by exact NI.carry : NI.Carry (by
  intro pins s σ H x y v u Q I rx ry hq
  rcases hq with hq | hq
  · exact h1 pins s σ H x y v u Q I rx ry hq
  · exact h2 pins s σ H x y v u Q I rx ry hq
))
section
variable {α : Type} {K : PySem.W.Frag} {H H' : Hp} {p a C : Addr} {xs ys : List V} {v : V} {q : Rat} {Q : VK} {R : Rl α}
theorem Same.hids (e : Same H H') : Same (Wo.hid p H) (Wo.hid p H') := fun b o q => by
  obtain ⟨n, q⟩ := hid_some q
  rw [hid_ne n]
  exact e _ _ q
theorem Same.unhid : Same (Wo.hid p H) H := fun b o q => (hid_some q).2
theorem hid_at {o : HO} (h : H a = some o) (hp : H p = some (.lst xs)) (n : o ≠ .lst xs) : hid p H a = some o := @NI.run _ (by exact NI.carry : NI.Carry (by
  rw [hid_ne (fun z => n (by rw [z, hp] at h; exact (Option.some.inj h).symm))]
  exact h
))
theorem sqT_hid (h : SqT K H a ys) (hp : H p = some (.lst xs)) : SqT K (hid p H) a ys := @NI.run _ (by exact NI.carry : NI.Carry (by
  rcases h with h | h
  · exact .inl (h.imp (fun h => hid_at h hp (fun z => by cases z)) fun ⟨o, h⟩ => ⟨o, hid_at h hp (fun z => by cases z)⟩)
  · exact .inr h
))
theorem hid_upd_same {o : HO} : hid p (upd H p o) = hid p H := @NI.run _ (by exact NI.carry : NI.Carry (by
  funext b
  by_cases z : b = p
  · rw [z, hid_same, hid_same]
  · rw [hid_ne z, hid_ne z, upd_ne z]
))
end
theorem rd_bm {K : PySem.W.Frag} {T : String} {r : V → List V → Hp → VK → Prop} {to : TE} {t : TA} {σ : L2.St} {H : Hp} {Q : VK} (q : to σ H fun x H1 => tyV K T x H1 ∧ t σ H1 fun xs H2 => r x xs H2 Q) : tBM K T r to t σ H Q := q
theorem RAll.strs {H : Hp} : ∀ {ns : List Str}, RAll RS H (ns.map V.str) ns
  | [] => .nil
  | _ :: _ => .cons rfl RAll.strs
theorem rd_dnew {σ : L2.St} {H : Hp} {Q : VK} (q : ∀ p, H p = none → Q (.ref p) (upd H p (.dK []))) : tDNewK σ H Q := q
theorem forN {n : Nat} {H : Hp} {g : TG} {tb : TS} {D : Ends} {σ : L2.St} (I : Nat → L2.St → Hp → Prop) (h0 : I 0 σ H)
    (hb : ∀ i σ' H', i < n → I i σ' H' → g (.int (i : Nat)) σ' H' fun σ2 H2 => tb { D with nx := I (i + 1), ct := I (i + 1), bk := D.nx } σ2 H2)
    (hd : ∀ σ' H', I n σ' H' → D.nx σ' H') : ForK (Itr 0 n) H g tb D σ := @NI.run _ (by exact NI.carry : NI.Carry (by
  refine ⟨fun i m σ' H' => m = n - i ∧ i ≤ n ∧ I i σ' H', ⟨n, rfl, Nat.zero_le _, h0⟩, ?_⟩
  rintro i m σ' H' ⟨rfl, hi, hI⟩
  by_cases hlt : i < n
  · refine .inr ⟨hlt, I (i + 1), fun σ2 H2 q => ⟨n - (i + 1), by omega, rfl, hlt, q⟩, fun x H'' hy => ?_⟩
    obtain ⟨rfl, rfl⟩ := hy
    have h := hb i σ' H'' hlt hI
    rw [show (0 : Int) + (i : Nat) = (i : Nat) by omega]
    exact h
  · have e : i = n := by omega
    subst e
    exact .inl ⟨Nat.le_refl _, hd σ' H' hI⟩
))
theorem forRN {j : Int} {H : Hp} {g : TG} {tb : TS} {D : Ends} {σ : L2.St} (h1 : 0 ≤ j) (h2 : j < 2 ^ 62) (q : ForK (Itr 0 j.toNat) H g tb D σ) : ∃ i : Int, [V.int j] = [.int i] ∧ -(2 ^ 62) ≤ i ∧ i < 2 ^ 62 ∧ ForK (Itr 0 i.toNat) H g tb D σ := ⟨j, rfl, by omega, h2, q⟩
section
variable {K : PySem.W.Frag} {H H' : Hp} {v : V} {t : Value}
theorem TyX.up (e : Same H H') (h : TyX K H v t) : TyX K H' v t := @NI.run _ (by exact NI.carry : NI.Carry (by
  cases h with
  | base h =>
    refine .base ?_
    cases h with
    | non => exact .non
    | bl x => exact .bl x
    | int x => exact .int x
    | str x => exact .str x
    | flt x => exact .flt x
    | lst h => exact .lst (e _ _ h)
    | frz h => exact .frz (e _ _ h)
    | tup h => exact .tup (e _ _ h)
    | dK h => exact .dK (e _ _ h)
    | dT h => exact .dT (e _ _ h)
    | ins h c a n t m => exact .ins (e _ _ h) c a n t m
  | byt b => exact .byt b
  | set h => exact .set (e _ _ h)
  | kList h c => exact .kList h c
  | kTuple h c => exact .kTuple h c
  | kDict h c => exact .kDict h c
  | fTuple h => exact .fTuple (e _ _ h)
  | fDict h => exact .fDict (e _ _ h)
))
def RTy (K : PySem.W.Frag) : Rl Value := fun H v t => HasTy K H v t
instance : Up (RTy K) := ⟨fun e h => h.imp (TyX.up e) fun ⟨a, C, dx, vs, h1, h2, h3, h4⟩ => ⟨a, C, dx, vs, h1, h2, Slt.up e h3, h4⟩⟩
end
end Wo
end
section
namespace Wo
open PySem PySem.Spec PySem.W PySem.Calls PyProof.Rows L2 PySem.NumText
def fDig (K : Frag) : Bool := He.eqO (nsIn K cStatics "sys.int_max_str_digits") (some none)
structure Dig (K : Frag) : Prop where
  n : nsIn K cStatics "sys.int_max_str_digits" = some none
theorem fDig_ok {K : Frag} (c : fDig K = true) : Dig K := ⟨He.eqO_ok c⟩
theorem Dig.no {K : Frag} {h : Heap} (D : Dig K) (X : K.In h) (L : h.NoLimit) : h.NoDigits := @NI.run _ (by exact NI.carry : NI.Carry (by
  obtain ⟨mc, G, _⟩ := L
  refine ⟨mc, G, ?_⟩
  obtain ⟨o, es, ep, ho, hd, _, hf⟩ := G
  have e := D.n
  unfold nsIn at e
  split at e
  · rename_i c d es' n' sl q
    have := X _ _ q
    rw [ho] at this
    cases this
    cases hd
    split at e
    · cases e
    · rename_i he
      rw [← hf]
      unfold nsFind findBy
      rw [← Array.find?_toList, he]
      rfl
  · cases e
))
theorem fStr_ok {K : Frag} {h : Heap} {mg : Str → Option Value} (X : K.In h) (G : h.Ns mainGlobals mg) {x z : Str} (c : fStr x z K = true) : ∃ t, mg x = some (.str z t) := @NI.run _ (by exact NI.carry : NI.Carry (by
  unfold fStr at c
  split at c
  · rename_i y t e
    have e2 := of_decide_eq_true c
    subst e2
    exact ⟨t, mg_of X G e⟩
  · cases c
))
theorem pe_gS {X : Cx} {x z : Str} {pos : Pos} (h : ∃ t, X.mg x = some (.str z t)) (hg : Gl X x := by rfl) (hd : (x == ("__debug__" : Str)) = false := by decide) : PE X (.Name x pos) (tC (.str z)) := @NI.run _ (by exact NI.carry : NI.Carry (by
  obtain ⟨t, h⟩ := h
  exact pe_glob hg h (show RelV (.str z) (.str z t) from ⟨t, rfl⟩) hd
))
section
variable {X : Cx}
def tFmtL (te : TE) : TE := fun σ H Q => te σ H fun x H1 => ∃ i : Int, x = .int i ∧ i.natAbs < 10 ^ 4300 ∧ Q (.str (toString i)) H1
theorem pe_fmtL (D : Dig X.K) {k : Nat} (hr : Room k X.A) {e : Expr} {te : TE} {pos : Pos} (he : PE X e te) : PE X (.FormattedValue e (-1) none pos) (tFmtL te) := @NI.run _ (by exact NI.carry : NI.Carry (by
  refine ⟨fun pins s σ H Q I h => ?_⟩
  refine wpAny_FormattedValue_plain (thn (he.run pins s σ H _ I h) fun v s1 hv => ?_)
  obtain ⟨x, H1, I1, r1, i, rfl, hz, q⟩ := hv
  obtain ⟨t, rfl⟩ := r1
  exact formatField_int hr.hd (D.no I1.kIn (I1.mod.nolimit.keeps I1.bk)) (fun _ => ⟨.str (toString i), H1, I1.tok _, ⟨_, rfl⟩, q⟩) fun hge => absurd hz (Nat.not_lt.mpr hge)
))
variable {k : Nat} {g C : Addr} {sp : Sp}
theorem call_strOwn (F : FnR X.prog X.w X.K X.mg X.base (CXW X.prog X.w) k g sp) (O : OwnM X.K C "__str__" g) (hr : Room (k + 2) X.A) :
    CallR X (.type "str") (fun vs H Q => ∃ x u v, vs = [x] ∧ Ob2 C H x u v ∧ sp [x] H (fun z H' => ∃ y, z = .str y ∧ Q z H') E0) := @NI.run _ (by exact NI.carry : NI.Carry (by
  intro pins s σ H xs us Q I r h
  obtain ⟨x, u1, v1, rfl, o1, q⟩ := h
  obtain ⟨p1, d1, rfl, s1'⟩ := o1
  obtain ⟨u, rfl, ru⟩ := r.one
  cases (show u = Value.ref p1 from ru)
  obtain ⟨sl, od, _, J, _⟩ := SlX.slt_inst I s1'
  have hr2 : Room k X.A.in1.in1 := (show Room (k + 1) X.A.in1 from Room.in1 hr).in1
  refine PySem.W.kso_call (by have := hr2.un; omega) I.kIn J O.at_ O.fn (wpAny_mono (wpAny_call (SlX.run_at (us := [.ref p1]) (ws := [.ref p1]) F hr2 I.env0.in1.in1 passF I (.cons rfl .nil) q)) (fun w s' z => ?_) fun _ _ x => x)
  obtain ⟨z', H', I', rz, y, ez, qz⟩ := z
  subst ez
  obtain ⟨t, rfl⟩ := (show ∃ t, w = Value.str y t from rz)
  exact ⟨.str y, H', I', ⟨t, rfl⟩, qz⟩
))
end
section
open ClX
variable {X : Cx} {k j : Nat} {g p C : Addr} {sp : Sp} {W : WX} {m : Str} {apos pos : Pos} {o e : Expr} {es : List Expr} {ta : TE} {t : TA} {mc : Value}
def tCMethW (C : Addr) (sp : Sp) (W : WX) (ta : TE) (t : TA) : TE := fun σ H Q => ta σ H fun x H1 => x = .ref C ∧ t σ H1 fun vs H2 => sp (.ref C :: vs) H2 Q (atW W σ)
theorem run_cmW {pins : List (Addr × Obj)} {σ : L2.St} {H : Hp} {s : Shared} {q : Addr} {Q : VK} {us : List Value} {vs : List V} (F : FnR X.prog X.w X.K X.mg X.base (CXW X.prog X.w) k g sp) (hr : Room k X.A) (tk : Takes X W)
    (I : L2.Inv X ((q, PySem.W.methodObj (.ref g) (.ref C)) :: pins) σ H s) (r : Vals vs us) (h : sp (.ref C :: vs) H Q (atW W σ)) : wpAny (model X.prog X.w) X.A (call (.ref q) us) (EP X pins σ Q) X.xe s := @NI.run _ (by exact NI.carry : NI.Carry (by
  have z : wpAny (model X.prog X.w) X.A (call (.ref q) us) (EP X ((q, PySem.W.methodObj (.ref g) (.ref C)) :: pins) σ Q) X.xe s := by
    refine wpAny_call (PySem.W.method_call (pin_at I) (codeAny_mono (F X.A X.stack s H (.ref C :: us) (.ref C :: vs) Q (atW W σ) hr I.env0 (.cons rfl r) h) fun r s' hq => ?_))
    cases r with
    | error e => exact tk e s' (XE.of_call I (fun cls d H' z => z) hq)
    | ok fl =>
      cases fl with
      | ret u => exact I.after hq
      | next => exact False.elim hq
      | brk => exact False.elim hq
      | cont => exact False.elim hq
  exact thn z fun _ _ y => unpinE y
))
theorem pe_cmethW {pl : Sem Bool} (he : PE X o ta) (r : CRead X.K C mc) (c : CMet X.K C mc m p g) (F : FnR X.prog X.w X.K X.mg X.base (CXW X.prog X.w) k g sp) (hr : Room j X.A) (tk : Takes X W) (ha : PA X (e :: es) t) (hk : k ≤ j := by decide)
    (hst : starEach (e :: es) X.env = (false, eval e X.env) :: starEach es X.env := by rfl) (hpl : (backTo pos (starEach es X.env)).any (·.1) = false := by rfl)
    (ht : eval (.Call (.Attribute o m apos) (e :: es) [] pos) X.env = (do
      let ov ← eval o X.env
      standAt apos.atName
      let (f, first) ← holding [ov] (getMethod ov m pl)
      callWith pos f first (backTo pos (starEach (e :: es) X.env)) (backToKw pos (keywordEach [] X.env))) := by rfl) :
    PE X (.Call (.Attribute o m apos) (e :: es) [] pos) (tCMethW C sp W ta t) := @NI.run _ (by exact NI.carry : NI.Carry (by
  refine ⟨fun pins s σ H Q I h => ?_⟩
  refine PySem.W.methodCall_KW (pl := pl) (thn (he.run pins s σ H _ I h) fun u s1 ⟨x, H1, I1, rx, ex, q⟩ => ?_) ht
  subst ex
  obtain rfl : u = Value.ref C := rx
  refine getmethcm_ok I1 r c fun s2 I2 => ?_
  refine callwith_cm I2 (base_none I1 (Nat.le_refl _)) c.fi (thn (ha.run pos _ s2 σ H1 _ I2 q) fun us s3 ⟨vs, H2, I3, rv, q2⟩ => ⟨⟨pin_at I3, I3.kIn⟩, ?_⟩) hst hpl
  exact run_cmW F (hr.mono hk) tk I3 rv q2
))
def tCallV (i : Nat) (C : Addr) (sp : Sp) (t : TA) : TE := fun σ H Q => σ[i]? = some (some (.ref C)) ∧ t σ H fun vs H1 => sp vs H1 Q E0
theorem pmV {cx x : Str} {p : Pos} {i : Nat} (c : Ctor X.prog X.w X.K X.mg X.base k cx sp) (hC : X.mg cx = some (.ref C)) (hr : Room j X.A) (ha : PA X (e :: es) t) (hN : X.N[i]? = some x) (hv : Vis X.env.scope x) (hk : k + 1 ≤ j := by decide)
    (hd : (x == ("__debug__" : Str)) = false := by decide) (hcd : (x == ("__classdict__" : Str)) = false := by decide)
    (he : starEach (e :: es) X.env = (false, eval e X.env) :: starEach es X.env := by rfl) (hpl : (backTo pos (starEach es X.env)).any (·.1) = false := by rfl) : PE X (.Call (.Name x p) (e :: es) [] pos) (tCallV i C sp t) := @NI.run _ (by exact NI.carry : NI.Carry (by
  obtain ⟨C', fi, spi, hm, M, F, kk⟩ := c
  cases hC.symm.trans hm
  refine ⟨fun pins s σ H Q I h => ?_⟩
  obtain ⟨hs, h⟩ := h
  refine wpAny_Call_Name_kw (thn ((pe_var (pos := p) (i := i) hN hv hd hcd).run pins s σ H (fun v H1 => v = .ref C ∧ H1 = H) I ⟨.ref C, hs, rfl, rfl⟩) fun u s0 ⟨v, H0, I0, r0, q0⟩ => ?_)
  obtain ⟨ev, eH⟩ := q0
  subst ev
  rw [eH] at I0
  obtain rfl : u = Value.ref C := r0
  refine PySem.W.callWith_K (h₀ := X.base) I0.ok.mod.kin M.kp (thn (ha.run pos pins s0 σ H _ I0 h) fun us s1 ⟨vs, H1, I1, r, q⟩ => ⟨I1.kIn, ?_⟩) he hpl
  exact StX.run_makeR M F (hr.mono hk) passF I1 r fun y dx h1 h2 h3 => kk vs H1 Q E0 q y dx h1 h2 h3
))
end
structure CMeth (K : Frag) (C : Addr) (m : Str) (g : Addr) : Prop where
  rd : ClX.CRead K C (.type "type")
  met : ∃ p, ClX.CMet K C (.type "type") m p g
def isCM (K : Frag) (C : Addr) (p : Addr) (g : Addr) : Option CFound → Bool
  | some (.get (.builtin b) (.ref q) .none (.ref D)) => decide (b = "classmethod.__get__") && (decide (q = p) && (decide (D = C) && fnIn K g))
  | _ => false
def isRec (g : Addr) : Option (List Value) → Bool
  | some (.ref h :: _) => decide (h = g)
  | _ => false
def fCM (x m : Str) (K : Frag) : Bool :=
  decide (readsIn K (gA x K) (.type "type") = true) && (He.eqO (specialIn K (.ref (gA x K)) "__getattribute__") (some (some (.builtin "type.__getattribute__"))) &&
  (isCM K (gA x K) (mA x m K) (rA "classmethod" x m K) (findCls K (.ref (gA x K)) (.type "type") m) && isRec (rA "classmethod" x m K) (recIn K (mA x m K) "classmethod")))
theorem fCM_ok {K : Frag} {x m : Str} (c : fCM x m K = true) : CMeth K (gA x K) m (rA "classmethod" x m K) := @NI.run _ (by exact NI.carry : NI.Carry (by
  obtain ⟨c1, c⟩ := He.ba c
  obtain ⟨c2, c⟩ := He.ba c
  obtain ⟨c3, c4⟩ := He.ba c
  refine ⟨⟨of_decide_eq_true c1, He.eqO_ok c2⟩, mA x m K, ?_⟩
  generalize hf : findCls K (.ref (gA x K)) (.type "type") m = r at c3
  generalize hr : recIn K (mA x m K) "classmethod" = r2 at c4
  unfold isCM at c3
  split at c3
  · obtain ⟨d1, c3⟩ := He.ba c3
    obtain ⟨d2, c3⟩ := He.ba c3
    obtain ⟨d3, d4⟩ := He.ba c3
    have e1 := of_decide_eq_true d1
    have e2 := of_decide_eq_true d2
    have e3 := of_decide_eq_true d3
    subst e1
    unfold isRec at c4
    split at c4
    · have e4 := of_decide_eq_true c4
      rw [e4] at hr
      rw [e2, e3] at hf
      exact ⟨hf, ⟨_, hr⟩, d4⟩
    · cases c4
  · cases c3
))
end Wo
end
section
namespace Wo
open PySem PySem.Spec PyProof.Rows L2
abbrev tx (l : List Nat) : Str := ⟨l.toArray⟩
theorem tx_of (s : Str) : tx s.cps.toList = s := rfl
theorem tx_app {l m : List Nat} : tx l ++ tx m = tx (l ++ m) := @NI.run _ (by exact NI.carry : NI.Carry (by
  show (⟨l.toArray ++ m.toArray⟩ : Str) = _
  simp [tx]
))
section
variable {H : Hp} {Q : VK} {σ : L2.St} {l m : List Nat} {n c i j : Nat} {to : TE} {z : Str} {ti tj : TE}
theorem tx_len : (tx l).length = l.length := @NI.run _ (by exact NI.carry : NI.Carry (by show l.toArray.size = _; simp
))
theorem line5 {k : Nat} (h : k ≤ 10 ^ 5) : k ≤ sizeLine := Nat.le_trans h (by decide)
theorem rd_sl {r : V → Option Int → Option Int → Hp → VK → Prop} {tl th : TO} (q : to σ H fun x H1 => tl σ H1 fun l H2 => th σ H2 fun u H3 => r x l u H3 Q) : L2.tSl r to tl th σ H Q := q
theorem rd_noPart {Q : Option Int → Hp → Prop} (q : Q none H) : tNoPart σ H Q := q
theorem rd_part {Q : Option Int → Hp → Prop} (q : to σ H fun x H1 => ∃ i, x = .int i ∧ Q (some i) H1) : tPart to σ H Q := q
theorem rd_exI {P : Int → Prop} {k : Int} (q : P k) : ∃ i, V.int k = .int i ∧ P i := ⟨k, rfl, q⟩
theorem rd_callW {sp : Sp} {W : WX} {t : TA} (q : t σ H fun vs H1 => sp vs H1 Q (atW W σ)) : tCallW sp W t σ H Q := q
theorem rd_callV {k : Nat} {C : Addr} {sp : Sp} {t : TA} (h : σ[k]? = some (some (.ref C))) (q : t σ H fun vs H1 => sp vs H1 Q E0) : tCallV k C sp t σ H Q := ⟨h, q⟩
theorem rd_fmtL {t : TE} (q : t σ H fun x H1 => ∃ i : Int, x = .int i ∧ i.natAbs < 10 ^ 4300 ∧ Q (.str (toString i)) H1) : tFmtL t σ H Q := q
end
end Wo
end
section
namespace Wo
open PySem PySem.Spec PyProof.Rows L2
section
variable {K : PySem.W.Frag} {h : Heap} {mg : Str → Option Value} {x : Str} {zs : List Str}
def strsB : List Value → List Str → Bool
  | [], [] => true
  | .str y _ :: vs, z :: zs => decide (y = z) && strsB vs zs
  | _, _ => false
theorem strsB_ok : ∀ {vs : List Value} {zs : List Str}, strsB vs zs = true → Vals (zs.map V.str) vs
  | [], [], _ => .nil
  | .str y t :: vs, z :: zs, c => by
    obtain ⟨c1, c2⟩ := He.ba (show (decide (y = z) && strsB vs zs) = true from c)
    have e := of_decide_eq_true c1
    subst e
    exact .cons ⟨t, rfl⟩ (strsB_ok c2)
  | [], _ :: _, c => nomatch c
  | .str _ _ :: _, [], c => nomatch c
def fTupS (x : Str) (zs : List Str) (K : PySem.W.Frag) : Bool := match K.lookup (gA x K) with
  | some ⟨cl, _, .seq its _, _⟩ => decide (cl = .type "tuple") && (decide (its.size ≤ sizeLine) && strsB its.toList zs)
  | _ => false
theorem fTupS_ok (c : fTupS x zs K = true) : ∀ H, SqT K H (gA x K) (zs.map V.str) := @NI.run _ (by exact NI.carry : NI.Carry (by
  intro H
  unfold fTupS at c
  split at c
  · rename_i cl dd its n sl q
    obtain ⟨c1, c⟩ := He.ba c
    obtain ⟨c2, c3⟩ := He.ba c
    exact .inr ⟨_, its, n, q, of_decide_eq_true c1, rfl, of_decide_eq_true c2, strsB_ok c3⟩
  · cases c
))
end
inductive Od where
  | int (i : Int) | none | bool (b : Bool) | str (s : Str) | unit | other
  deriving DecidableEq
def ROd (K : PySem.W.Frag) : Rl Od := fun H v o => match o with
  | .int i => v = .int i
  | .none => v = .non
  | .bool b => v = .bl b
  | .str s => v = .str s
  | .unit => ∃ p, v = .ref p ∧ H p = some (.tup [])
  | .other => ∃ p, v = .ref p ∧ ∃ xs, SqT K H p xs
instance {K : PySem.W.Frag} : Up (ROd K) := ⟨fun {H H' v o} e h => by
  cases o with
  | unit =>
    obtain ⟨p, rfl, hp⟩ := h
    exact ⟨p, rfl, e _ _ hp⟩
  | other =>
    obtain ⟨p, rfl, xs, hp⟩ := h
    exact ⟨p, rfl, xs, Same.seqT e hp⟩
  | _ => exact h⟩
def Od.ty : Od → Value
  | .int _ => .type "int"
  | .none => .type "NoneType"
  | .bool _ => .type "bool"
  | .str _ => .type "str"
  | .unit => .type "tuple"
  | .other => .type "tuple"
theorem ROd.ty {K : PySem.W.Frag} {H : Hp} {v : V} {o : Od} (h : ROd K H v o) : HasTy K H v o.ty := @NI.run _ (by exact NI.carry : NI.Carry (by
  cases o with
  | int i => obtain rfl := h; exact HasTy.int
  | none => obtain rfl := h; exact HasTy.none
  | bool b => obtain rfl := h; exact HasTy.bool
  | str s => obtain rfl := h; exact HasTy.str
  | unit => obtain ⟨p, rfl, hp⟩ := h; exact HasTy.sqT (.inl (.inl hp))
  | other => obtain ⟨p, rfl, xs, hp⟩ := h; exact HasTy.sqT hp
))
section
variable {K : PySem.W.Frag} {H : Hp} {Q : VK} {p : Addr} {s : Str} {zs : List Str}
theorem inV_strs : ∀ {zs : List Str}, inV (.str s) (zs.map V.str) = decide (s ∈ zs)
  | [] => rfl
  | z :: zs => by
    show (eqV (.str z) (.str s) || inV (.str s) (zs.map V.str)) = _
    rw [inV_strs (zs := zs)]
    show (z == s || _) = _
    by_cases h : z = s
    · subst h
      simp
    · have h2 : ¬ s = z := fun e => h e.symm
      rw [show (z == s) = false from by rw [beq_eq_false_iff_ne]; exact h]
      simp [h2]
theorem flat_strs : ∀ {zs : List Str}, (zs.map V.str).all flatV = true
  | [] => rfl
  | _ :: zs => by
    show (true && (zs.map V.str).all flatV) = true
    rw [flat_strs]
    rfl
theorem rd_inTS (h : SqT K H p (zs.map V.str)) (q : Q (.bl (decide (s ∈ zs))) H) : rIn K false (.str s) (.ref p) H Q :=
  ⟨p, _, rfl, .inr h, rfl, flat_strs, by rw [inV_strs]; exact q⟩
theorem rd_ninTS (h : SqT K H p (zs.map V.str)) (q : Q (.bl (!decide (s ∈ zs))) H) : rIn K true (.str s) (.ref p) H Q :=
  ⟨p, _, rfl, .inr h, rfl, flat_strs, by rw [inV_strs]; exact q⟩
end
section
variable {K : PySem.W.Frag} {α β : Type} {R : Rl α} {S : Rl β} [Up R] [Up S] {J : It} {H1 H : Hp} {as : List α} {g : TG} {te : TE} {tt : TT} {vs : List Nat} {σ : L2.St} {Q : VK} {ta : TA}
def LcF (J : It) (H1 : Hp) (g : TG) (tt : TT) (te : TE) (vs : List Nat) (σ : L2.St) (Q : VK) : Prop :=
  ∀ D, H1 D = none → ∃ W : Nat → Nat → Hp → Prop, (∃ m, W 0 m (upd H1 D (.lst []))) ∧ ∀ i m H, W i m H →
      (J.stop i H ∧ Q (.ref D) H) ∨ (J.go i H ∧ ∃ Nx : Hp → Prop, (∀ H', Nx H' → ∃ m', m' < m ∧ W (i + 1) m' H') ∧ ∀ x H', J.yld i H x H' → g x (wipe σ vs) H' fun σ2 H2 => wipe σ2 vs = wipe σ vs ∧ tHidT tt σ2 H2 fun b H3 =>
        if b = true then (tHid te) σ2 H3 fun y H4 => ∃ acc, H4 D = some (.lst acc) ∧ acc.length < sizeLine ∧ Nx (upd H4 D (.lst (acc ++ [y]))) else Nx H3)
theorem rd_lcR2f (q : ta σ H fun us H1 => ∃ i j : Int, us = [.int i, .int j] ∧ (-(2 ^ 62) ≤ i ∧ i < 2 ^ 62 ∧ -(2 ^ 62) ≤ j ∧ j < 2 ^ 62) ∧ LcF (Itr i (j - i).toNat) H1 g tt te vs σ Q) : tLc (iRng2 ta) g (tHidT tt) (tHid te) vs σ H Q := q
theorem lcF_name {i : Nat} (W : Wk J H1 R as) (hz : as.length ≤ sizeLine) (p : α → Bool) (f : α → β)
    (hd : ∀ v H', Same H1 H' → RL K S H' v ((as.filter p).map f) → Q v H')
    (ht : ∀ a G x, a ∈ as → Same H1 G → R G x a → ∀ Kt : Bool → Hp → Prop, Kt (p a) G → tt ((wipe σ vs).set i (some x)) G Kt)
    (hb : ∀ a G x, a ∈ as → p a = true → Same H1 G → R G x a → ∀ Kt : VK, (∀ y G', Same G G' → S G' y (f a) → Kt y G') → te ((wipe σ vs).set i (some x)) G Kt)
    (hw : ∀ v, wipe ((wipe σ vs).set i (some v)) vs = wipe σ vs := by intro _; rfl) : LcF J H1 (gName i) tt te vs σ Q := @NI.run _ (by exact NI.carry : NI.Carry (by
  intro D hD
  refine ⟨fun i m H => m = as.length - i ∧ i ≤ as.length ∧ ∃ G acc, H = upd G D (.lst acc) ∧ G D = none ∧ Same H1 G ∧ RAll S G acc (((as.take i).filter p).map f), ⟨as.length, by simp, Nat.zero_le _, H1, [], rfl, hD, Same.refl _, by rw [List.take_zero]; exact .nil⟩, ?_⟩
  rintro k m H ⟨rfl, hi, G, acc, rfl, hG, s, ra⟩
  have hla : acc.length ≤ k := by
    rw [ra.len, List.length_map]
    exact Nat.le_trans (List.length_filter_le _ _) (by rw [List.length_take]; omega)
  by_cases hlt : k < as.length
  · refine .inr ⟨W.go k _ (s.trans (Same.new hG)) hlt, fun H' => ∃ G' acc', H' = upd G' D (.lst acc') ∧ G' D = none ∧ Same H1 G' ∧ RAll S G' acc' (((as.take (k + 1)).filter p).map f), ?_, ?_⟩
    · rintro H' ⟨G', acc', e, h1, h2, h3⟩
      exact ⟨as.length - (k + 1), by omega, rfl, hlt, G', acc', e, h1, h2, h3⟩
    · intro x H' hy
      obtain ⟨G', s2, hG', eH, rx⟩ := W.yldD k G D _ x H' as[k] s hG (by simp [hlt]) hy
      subst eH
      have hm : as[k] ∈ as := List.getElem_mem hlt
      have et : as.take (k + 1) = as.take k ++ [as[k]] := by
        rw [List.take_succ]
        simp [hlt]
      refine gok_name _ (Same.new hG') _ ⟨hw x, ?_⟩
      refine ⟨D, acc, upd_same, ?_⟩
      rw [hid_upd hG']
      refine ht as[k] G' x hm (s.trans s2) rx _ fun hG2 => ?_
      by_cases hp : p as[k] = true
      · rw [hp]
        show (if true = true then _ else _)
        rw [if_pos rfl]
        refine ⟨D, acc, upd_same, ?_⟩
        rw [hid_upd hG']
        refine hb as[k] G' x hm hp (s.trans s2) rx _ fun y G2 s3 hy2 hG2 => ?_
        refine ⟨acc, upd_same, by omega, G2, acc ++ [y], ?_, hG2, (s.trans s2).trans s3, ?_⟩
        · rw [upd_upd]
        · rw [et, List.filter_append, List.map_append, List.filter_cons_of_pos hp]
          exact (ra.up (s2.trans s3)).snoc hy2
      · rw [show p as[k] = false from Bool.eq_false_iff.mpr hp]
        show (if false = true then _ else _)
        rw [if_neg (by decide)]
        refine ⟨G', acc, rfl, hG', s.trans s2, ?_⟩
        rw [et, List.filter_append, List.map_append, List.filter_cons_of_neg hp]
        simp only [List.filter_nil, List.map_nil, List.append_nil]
        exact ra.up s2
  · have e : k = as.length := by omega
    subst e
    refine .inl ⟨W.stop _ (s.trans (Same.new hG)), hd _ _ (s.trans (Same.new hG)) ?_⟩
    rw [List.take_length] at ra
    exact RL.mk hG ra (by omega)
))
end
section
variable {K : PySem.W.Frag} {σ : L2.St} {H : Hp} {Q : VK} {te : L2.St → Hp → (Int → Int → Hp → Prop) → Prop} {ta tb : TE}
theorem rgV_eq (a b : Int) : rgV a b = (rgI a (b - a).toNat).map V.int := @NI.run _ (by exact NI.carry : NI.Carry (by
  unfold rgV rgI
  rw [List.map_map]
  rfl
))
theorem rd_lstRg (q : te σ H fun a b H1 => RgOk a b ∧ ∀ p, H1 p = none → Q (.ref p) (upd H1 p (.lst (rgV a b)))) : tLstRg te σ H Q := q
theorem rd_rg1 {Q : Int → Int → Hp → Prop} (q : ta σ H fun x H1 => ∃ n, x = .int n ∧ Q 0 n H1) : tRg1 ta σ H Q := q
end
end Wo
end
section
namespace Wo
open PySem PySem.Spec PyProof.Rows L2
def LB {α : Type} (R : Rl α) (H : Hp) (p : Addr) (as : List α) : Prop := ∃ vs, H p = some (.lst vs) ∧ RAll R (hid p H) vs as ∧ vs.length ≤ sizeLine
section
variable {K : PySem.W.Frag} {α β : Type} {R : Rl α} {S : Rl β} [Up R] [Up S] {H H' H1 : Hp} {p : Addr} {as : List α} {bs : List β} {a : α} {v : V} {Q : VK} {n : Nat}
theorem LB.new {vs : List V} (h : H p = none) (r : RAll R H vs as) (hz : vs.length ≤ sizeLine) : LB R (upd H p (.lst vs)) p as :=
  ⟨vs, upd_same, by rw [hid_upd h]; exact r, hz⟩
theorem LB.up (e : Same H H') (h : LB R H p as) : LB R H' p as := @NI.run _ (by exact NI.carry : NI.Carry (by
  obtain ⟨vs, h1, h2, h3⟩ := h
  exact ⟨vs, e _ _ h1, h2.up (Same.hids e), h3⟩
))
theorem LB.rl (h : LB R H p as) : RL K R H (.ref p) as := @NI.run _ (by exact NI.carry : NI.Carry (by
  obtain ⟨vs, h1, h2, h3⟩ := h
  exact RL.at h1 (h2.up Same.unhid) h3
))
theorem LB.ty (h : LB R H p as) : tyV K "list" (.ref p) H := @NI.run _ (by exact NI.carry : NI.Carry (by
  obtain ⟨vs, h1, h2, h3⟩ := h
  exact .inl ⟨rfl, vs, .inl (.inl h1)⟩
))
theorem LB.len (h : LB R H p as) : as.length ≤ sizeLine := @NI.run _ (by exact NI.carry : NI.Carry (by
  obtain ⟨vs, h1, h2, h3⟩ := h
  rw [← h2.len]
  exact h3
))
theorem LB.push (h : LB R H p as) (hv : R (hid p H) v a) (hn : as.length < sizeLine) (q : ∀ H', (∀ b o, H b = some o → b ≠ p → H' b = some o) → LB R H' p (as ++ [a]) → Q .non H') : rAppend (.ref p) [v] H Q := @NI.run _ (by exact NI.carry : NI.Carry (by
  obtain ⟨vs, h1, h2, h3⟩ := h
  have hl : vs.length < sizeLine := by rw [h2.len]; exact hn
  refine ⟨p, vs, v, rfl, rfl, h1, hl, q _ (fun b o e ne => by rw [upd_ne ne]; exact e) ⟨vs ++ [v], upd_same, ?_, by rw [List.length_append]; exact hl⟩⟩
  rw [hid_upd_same]
  exact h2.snoc hv
))
theorem RAll.setAt : ∀ {vs : List V} {as : List α} {n : Nat}, RAll R H vs as → R H v a → RAll R H (vs.set n v) (as.set n a)
  | [], [], _, .nil, _ => .nil
  | _ :: _, _ :: _, 0, .cons h t, hv => .cons hv t
  | _ :: _, _ :: _, n + 1, .cons h t, hv => .cons h (RAll.setAt t hv)
theorem LB.put {i : Int} {Q : Hp → Prop} (h : LB R H p as) (hv : R (hid p H) v a) (hn : n < as.length) (q : ∀ H', (∀ b o, H b = some o → b ≠ p → H' b = some o) → LB R H' p (as.set n a) → Q H') (hi : i = (n : Int) := by rfl) : rSetL (.ref p) (.int i) v H Q := @NI.run _ (by exact NI.carry : NI.Carry (by
  subst hi
  obtain ⟨vs, h1, h2, h3⟩ := h
  have hl := h2.len
  refine ⟨p, vs, n, n, rfl, rfl, h1, ?_, q _ (fun b o e ne => by rw [upd_ne ne]; exact e) ⟨vs.set n v, upd_same, ?_, by rw [List.length_set]; exact h3⟩⟩
  · unfold ixN
    rw [if_pos (by omega), if_pos (by omega), Int.toNat_natCast]
  · rw [hid_upd_same]
    exact RAll.setAt h2 hv
))
theorem Same.own (e : Same H H1) (hp : H p = none) (k : ∀ b o, H1 b = some o → b ≠ p → H' b = some o) : Same H H' := fun b o q => k b o (e b o q) (ne_of_none q hp)
end
section
variable {H : Hp} {g : TG} {tb : TS} {D : Ends} {σ : L2.St} {ta : TA} {lo : Int} {n : Nat}
theorem rd_forR2 (q : ta σ H fun us H1 => ∃ i j : Int, us = [.int i, .int j] ∧ (-(2 ^ 62) ≤ i ∧ i < 2 ^ 62 ∧ -(2 ^ 62) ≤ j ∧ j < 2 ^ 62) ∧ ForK (Itr i (j - i).toNat) H1 g tb D σ) : tFor (iRng2 ta) g tb D σ H := q
theorem rd_gSub {to ti : TE} {t : TSet} {v : V} {P : L2.St → Hp → Prop} (q : to σ H fun o H1 => ti σ H1 fun i H2 => t o i v H2 fun H3 => P σ H3) : gSub to ti t v σ H P := q
theorem forKo {α : Type} {R : Rl α} [Up R] {J : It} {H0 : Hp} {as : List α} (W : Wk J H0 R as) (I : Nat → L2.St → Hp → Prop) (h0 : I 0 σ H) (hs : ∀ i σ' H', I i σ' H' → Same H0 H')
    (hb : ∀ i σ' H' a x H'', as[i]? = some a → I i σ' H' → Same H' H'' → Same H0 H'' → R H'' x a → g x σ' H'' fun σ2 H2 => tb { D with nx := I (i + 1), ct := I (i + 1), bk := D.nx } σ2 H2)
    (hd : ∀ σ' H', I as.length σ' H' → D.nx σ' H') : ForK J H g tb D σ := @NI.run _ (by exact NI.carry : NI.Carry (by
  refine ⟨fun i m σ' H' => m = as.length - i ∧ i ≤ as.length ∧ I i σ' H', ⟨as.length, by simp, Nat.zero_le _, h0⟩, ?_⟩
  rintro i m σ' H' ⟨rfl, hi, hI⟩
  have s := hs i σ' H' hI
  by_cases hlt : i < as.length
  · refine .inr ⟨W.go i H' s hlt, I (i + 1), fun σ2 H2 q => ⟨as.length - (i + 1), by omega, rfl, hlt, q⟩, fun x H'' hy => ?_⟩
    obtain ⟨s2, rx⟩ := W.yld i H' x H'' as[i] s (by simp [hlt]) hy
    exact hb i σ' H' as[i] x H'' (by simp [hlt]) hI s2 (s.trans s2) rx
  · have e : i = as.length := by omega
    subst e
    exact .inl ⟨W.stop H' s, hd σ' H' hI⟩
))
end
end Wo
end
section
namespace Wo
open PySem PySem.Spec PyProof.Rows L2
open PySem.W (Frag Hook codeHdIn CodeHd codeHd_of_K)
def cdI (K : Frag) (a : Addr) : Value := match K.lookup a with
  | some ⟨_, _, .func fd, _⟩ => fd.code
  | _ => .none
def cAd (K : Frag) (f : Addr) : Addr := match cdI K f with
  | .ref c => c
  | _ => 0
def pOf (K : Frag) (c : Addr) : Addr := match K.lookup c with
  | some ⟨_, _, .fields vs, _⟩ => (match (vs[11]? : Option Value) with | some (.ref P) => P | _ => 0)
  | _ => 0
def pAd (K : Frag) (f : Addr) : Addr := pOf K (cAd K f)
def emptyT (o : Option Obj) : Bool := match o with
  | some ⟨.none, none, .fields vs, sl⟩ => vs.isEmpty && sl.isEmpty
  | _ => false
theorem emptyT_ok {o : Option Obj} (h : emptyT o = true) : o = some { cls := .none, data := .fields #[] } := @NI.run _ (by exact NI.carry : NI.Carry (by
  unfold emptyT at h
  split at h
  · rename_i vs sl
    obtain ⟨h1, h2⟩ := He.ba h
    rw [Array.isEmpty_iff] at h1 h2
    subst h1 h2
    rfl
  · cases h
))
def tabOk (g : Addr → Option Obj) (K : Frag) (f : Addr) : Bool := codeHdIn K (cAd K f) (pAd K f) && (decide (cdI K f = .ref (cAd K f)) && ((K.lookup (pAd K f)).isNone && emptyT (g (pAd K f))))
structure TabF (K : Frag) (h : Heap) (f : Addr) : Prop where
  code : cdI K f = .ref (cAd K f)
  hd : codeHdIn K (cAd K f) (pAd K f) = true
  no : K.lookup (pAd K f) = none
  tab : h.get? (pAd K f) = some { cls := .none, data := .fields #[] }
theorem tabOk_ok {h : Heap} {K : Frag} {f : Addr} (c : tabOk h.get? K f = true) : TabF K h f := @NI.run _ (by exact NI.carry : NI.Carry (by
  obtain ⟨c1, c⟩ := He.ba c
  obtain ⟨c2, c⟩ := He.ba c
  obtain ⟨c3, c4⟩ := He.ba c
  exact ⟨of_decide_eq_true c2, c1, Option.isNone_iff_eq_none.mp c3, emptyT_ok c4⟩
))
abbrev AlT : Type := AlY × Bool
def SaysT (fs : List (Frag → Bool)) (ds : List DefX) (es : List EX) (ts : List (Pa × Str)) (K : Frag) (h : Heap) : Prop := SaysY fs ds es K ∧ (ts.map fun t => pAd K (t.1 K)).Nodup ∧ ∀ t ∈ ts, TabF K h (t.1 K)
def noT (H : Hp) : Hp := fun b => match H b with
  | some (.tbl _) => none
  | o => o
theorem noT_at {H : Hp} {b : Addr} {o : HO} (h : H b = some o) (n : ∀ ps, o ≠ .tbl ps) : noT H b = some o := @NI.run _ (by exact NI.carry : NI.Carry (by
  unfold noT
  rw [h]
  cases o with
  | tbl ps => exact absurd rfl (n ps)
  | _ => rfl
))
class UpN {α : Type} (R : Rl α) : Prop where
  up : ∀ {H : Hp} {v : V} {a : α}, R H v a → R (noT H) v a
instance : UpN RI := ⟨fun h => h⟩
instance : UpN RS := ⟨fun h => h⟩
instance : UpN RB := ⟨fun h => h⟩
section
variable {K : Frag} {H : Hp} {a : Addr} {xs : List V}
theorem sqT_noT (h : SqT K H a xs) : SqT K (noT H) a xs := @NI.run _ (by exact NI.carry : NI.Carry (by
  rcases h with h | h
  · exact .inl (h.imp (fun h => noT_at h (fun ps z => by cases z)) fun ⟨o, h⟩ => ⟨o, noT_at h (fun ps z => by cases z)⟩)
  · exact .inr h
))
theorem sqL_noT (h : SqL K H a xs) : SqL K (noT H) a xs := @NI.run _ (by exact NI.carry : NI.Carry (by
  rcases h with h | h
  · exact .inl (h.imp (fun h => noT_at h (fun ps z => by cases z)) fun ⟨o, h⟩ => ⟨o, noT_at h (fun ps z => by cases z)⟩)
  · exact .inr h
))
end
instance {K : Frag} {α : Type} {R : Rl α} [UpN R] : UpN (RT K R) := ⟨fun ⟨p, vs, a, b, c, d⟩ => ⟨p, vs, a, sqT_noT b, Paired.mono (fun _ _ h => UpN.up h) c, d⟩⟩
instance {K : Frag} {α : Type} {R : Rl α} [UpN R] : UpN (RL K R) := ⟨fun ⟨p, vs, a, b, c, d⟩ => ⟨p, vs, a, sqL_noT b, Paired.mono (fun _ _ h => UpN.up h) c, d⟩⟩
instance {K : Frag} {α β : Type} {R : Rl α} {S : Rl β} [UpN R] [UpN S] : UpN (RP K R S) := ⟨fun ⟨p, x, y, a, b, c, d⟩ => ⟨p, x, y, a, sqT_noT b, UpN.up c, UpN.up d⟩⟩
instance {C : Addr} : UpN (RQ C) := ⟨fun {H v q} h => by
  obtain ⟨a, dx, rfl, h | ⟨h1, h2⟩⟩ := h
  · exact absurd h.2 (by simp)
  · exact ⟨a, dx, rfl, .inr ⟨noT_at h1 (fun ps z => by unfold SlX.SlO at z; cases z), noT_at h2 (fun ps z => by cases z)⟩⟩⟩
theorem TyX.noT {K : Frag} {H : Hp} {v : V} {t : Value} (h : TyX K H v t) : TyX K (noT H) v t := @NI.run _ (by exact NI.carry : NI.Carry (by
  cases h with
  | base h =>
    refine .base ?_
    cases h with
    | non => exact .non
    | bl x => exact .bl x
    | int x => exact .int x
    | str x => exact .str x
    | flt x => exact .flt x
    | lst h => exact .lst (noT_at h (fun ps z => by cases z))
    | frz h => exact .frz (noT_at h (fun ps z => by cases z))
    | tup h => exact .tup (noT_at h (fun ps z => by cases z))
    | dK h => exact .dK (noT_at h (fun ps z => by cases z))
    | dT h => exact .dT (noT_at h (fun ps z => by cases z))
    | ins h c a n t m => exact .ins (noT_at h (fun ps z => by cases z)) c a n t m
  | byt b => exact .byt b
  | set h => exact .set (noT_at h (fun ps z => by cases z))
  | kList h c => exact .kList h c
  | kTuple h c => exact .kTuple h c
  | kDict h c => exact .kDict h c
  | fTuple h => exact .fTuple (noT_at h (fun ps z => by cases z))
  | fDict h => exact .fDict (noT_at h (fun ps z => by cases z))
))
theorem Slt.noT {H : Hp} {a C dx : Addr} {vs : List (Option V)} (h : SlX.Slt H a C dx vs) : SlX.Slt (noT H) a C dx vs := @NI.run _ (by exact NI.carry : NI.Carry (by
  rcases h with ⟨h1, h2⟩ | ⟨h1, h2⟩
  · exact .inl ⟨noT_at h1 (fun ps z => by cases z), h2⟩
  · exact .inr ⟨noT_at h1 (fun ps z => by unfold SlX.SlO at z; cases z), noT_at h2 (fun ps z => by cases z)⟩
))
theorem HasTy.noT {K : Frag} {H : Hp} {v : V} {t : Value} (h : HasTy K H v t) : HasTy K (noT H) v t := h.imp TyX.noT fun ⟨a, C, dx, vs, h1, h2, h3, h4⟩ => ⟨a, C, dx, vs, h1, h2, Slt.noT h3, h4⟩
instance {K : Frag} : UpN (RTy K) := ⟨fun h => HasTy.noT h⟩
end Wo
end
section
namespace Wo
open PySem PySem.Spec PyProof.Rows L2
def rNeE (K : PySem.W.Frag) : R2 := fun x y H Q => ∃ p q xs, x = .ref p ∧ y = .ref q ∧ SqL K H p xs ∧ xs.length ≤ sizeLine ∧ SqL K H q [] ∧ ∀ H', Same H H' → Q (.bl (!xs.isEmpty)) H'
theorem neE {X : Cx} {n : Nat} (hr : Room (n + 1) X.A) : OpR X (compareOp .NotEq) (rNeE X.K) := @NI.run _ (by exact NI.carry : NI.Carry (by
  intro pins s σ H x y v u Q I rx ry h
  obtain ⟨p, q, xs, rfl, rfl, s1, hz, s2, k⟩ := h
  show wpAny (model X.prog X.w) X.A (richCompare .NotEq v u) (EP X pins σ Q) X.xe s
  cases xs with
  | nil =>
    refine wpAny_mono ((rcB_lstN (R := RI) (eqB_int.mono (Nat.zero_le n))) X.A pins s σ H _ _ v u [] [] ⟨hr, rfl⟩ I rx ry ⟨p, [], rfl, s1, .nil, by decide⟩ ⟨q, [], rfl, s2, .nil, by decide⟩) (fun r s' z => ?_) fun _ _ x => x
    obtain ⟨b, rfl, hk, H', I', e⟩ := z
    have hb : b = false := hk.mpr rfl
    subst hb
    exact ⟨.bl false, H', I', rfl, k H' e⟩
  | cons a t =>
    cases rx
    cases ry
    obtain ⟨its0, m01, s01, v01, e01⟩ := I.plist s1
    obtain ⟨its02, m02, s02, v02, e02⟩ := I.plist s2
    have l1 : its0.toArray.size = t.length + 1 := by rw [List.size_toArray, ← v01.length]; rfl
    have l2 : its02.toArray.size = 0 := by rw [List.size_toArray, ← v02.length]; rfl
    have hd : (its0.toArray.size != its02.toArray.size) = true := by rw [l1, l2]; rfl
    refine wpAny_richCompare_same_room (op := .NotEq) ⟨_, e01, rfl⟩ ⟨_, e02, rfl⟩ F.slot_list_ne (GQ.call_here F.slot_list_ne ⟨_, e01, rfl⟩ F.entry_list_ne (F.args_list_ne_2 _ _) ?_) hr.units0
    refine list_neL p q _ _ m01 m02 s01 s02 hd e01 e02 ⟨(fun x => nomatch x), .bl true, H, I, rfl, k H (Same.refl H)⟩
))
end Wo
end
section
namespace Wo
open PySem PySem.Spec PyProof.Rows L2
section
variable {K : PySem.W.Frag} {α : Type} {R : Rl α} {H : Hp} {Q : VK} {x y : V} {as bs : List α}
theorem rd_catT [Up R] (h1 : RT K R H x as) (h2 : RT K R H y bs) (hz : as.length + bs.length ≤ sizeLine) (k : ∀ v H', Same H H' → RT K R H' v (as ++ bs) → Q v H') : rCatA K x y H Q := @NI.run _ (by exact NI.carry : NI.Carry (by
  obtain ⟨a, xs, rfl, s1, r1, z1⟩ := h1
  obtain ⟨b, ys, rfl, s2, r2, z2⟩ := h2
  have l1 := r1.len
  have l2 := r2.len
  have r3 := r1.append r2
  refine ⟨a, b, xs, ys, rfl, rfl, s1, s2, by omega, fun e => ?_, fun e e2 => ?_, fun e e2 p hp => ?_⟩
  · subst e
    exact k _ _ (Same.refl _) ⟨b, ys, rfl, s2, r3, z2⟩
  · subst e2
    rw [List.append_nil] at r3
    exact k _ _ (Same.refl _) ⟨a, xs, rfl, s1, r3, z1⟩
  · exact k _ _ (Same.new hp) (RT.mk hp r3 (by rw [List.length_append]; omega))
))
theorem RAll.sub {vs : List V} (h : RAll R H vs as) (i n : Nat) : RAll R H ((vs.drop i).take n) ((as.drop i).take n) := RAll.take n (RAll.drop i h)
theorem rd_slTo [Up R] (h : RT K R H x as) (n : Nat) (k : ∀ v H', Same H H' → RT K R H' v (as.take n) → Q v H') : rSlA K x none (some (n : Int)) H Q := @NI.run _ (by exact NI.carry : NI.Carry (by
  obtain ⟨a, xs, rfl, s1, r1, z1⟩ := h
  have l1 := r1.len
  have r3 := RAll.take n r1
  have ec : cutV xs none (some (n : Int)) = xs.take n := by
    unfold cutV
    rw [HT.sIx_none, HT.sIx_nat, List.drop_zero, Nat.sub_zero]
    by_cases h : n ≤ xs.length
    · rw [Nat.min_eq_left h]
    · rw [Nat.min_eq_right (by omega), List.take_of_length_le (Nat.le_refl _), List.take_of_length_le (by omega)]
  refine ⟨a, xs, rfl, s1, fun e => ?_, fun e p hp => ?_⟩
  · have e2 := e.2
    rw [HT.sIx_nat] at e2
    rw [List.take_of_length_le (show xs.length ≤ n by omega)] at r3
    exact k _ _ (Same.refl _) ⟨a, xs, rfl, s1, r3, z1⟩
  · rw [ec]
    exact k _ _ (Same.new hp) (RT.mk hp r3 (by rw [List.length_take]; omega))
))
theorem rd_slTf [Up R] (h : RT K R H x as) (n : Nat) (k : ∀ v H', Same H H' → RT K R H' v (as.drop n) → Q v H') : rSlA K x (some (n : Int)) none H Q := @NI.run _ (by exact NI.carry : NI.Carry (by
  obtain ⟨a, xs, rfl, s1, r1, z1⟩ := h
  have l1 := r1.len
  have r3 := RAll.drop n r1
  have ec : cutV xs (some (n : Int)) none = xs.drop n := by
    unfold cutV
    rw [HT.sIx_none, HT.sIx_nat]
    by_cases h : n ≤ xs.length
    · rw [Nat.min_eq_left h, List.take_of_length_le (by rw [List.length_drop]; omega)]
    · rw [Nat.min_eq_right (by omega), Nat.sub_self, List.take_zero, List.drop_eq_nil_of_le (by omega)]
  refine ⟨a, xs, rfl, s1, fun e => ?_, fun e p hp => ?_⟩
  · have e2 := e.1
    rw [HT.sIx_nat] at e2
    rcases Nat.eq_zero_or_pos n with hn | hn
    · subst hn
      rw [List.drop_zero] at r3
      exact k _ _ (Same.refl _) ⟨a, xs, rfl, s1, r3, z1⟩
    · have h0 : xs.length = 0 := by omega
      rw [List.length_eq_zero_iff.mp h0, List.drop_nil] at r3
      rw [List.length_eq_zero_iff.mp h0] at s1
      exact k _ _ (Same.refl _) ⟨a, [], rfl, s1, r3, Nat.zero_le _⟩
  · rw [ec]
    exact k _ _ (Same.new hp) (RT.mk hp r3 (by rw [List.length_drop]; omega))
))
end
section
variable {K : PySem.W.Frag} {α β : Type} {R : Rl α} [Up R] {σ : L2.St} {H : Hp} {Q : VK} {g : TG} {tt : TT} {te tl : TE} {ta : TA} {vs : List Nat} {as : List α} {x : V}
theorem rd_lcTf (q : tl σ H fun x H1 => ∃ a, x = .ref a ∧ (∃ xs, SqT K H1 a xs) ∧ LcF (Itt K a) H1 g tt te vs σ Q) : tLc (iTup K tl) g (tHidT tt) (tHid te) vs σ H Q := q
theorem rd_lcLf (q : tl σ H fun x H1 => ∃ a, x = .ref a ∧ (∃ xs, SqL K H1 a xs) ∧ LcF (Itl K a) H1 g tt te vs σ Q) : tLc (iList K tl) g (tHidT tt) (tHid te) vs σ H Q := q
theorem rd_lcR1f (q : ta σ H fun us H1 => ∃ j : Int, us = [.int j] ∧ -(2 ^ 62) ≤ j ∧ j < 2 ^ 62 ∧ LcF (Itr 0 j.toNat) H1 g tt te vs σ Q) : tLc (iRng1 ta) g (tHidT tt) (tHid te) vs σ H Q := q
theorem lcLf (h : RL K R H x as) (q : ∀ J, Wk J H R as → as.length ≤ sizeLine → LcF J H g tt te vs σ Q) : ∃ a, x = .ref a ∧ (∃ xs, SqL K H a xs) ∧ LcF (Itl K a) H g tt te vs σ Q := @NI.run _ (by exact NI.carry : NI.Carry (by
  obtain ⟨p, ws, rfl, s, r, z⟩ := id h
  exact ⟨p, rfl, ⟨ws, s⟩, q _ (wk_list h) (by rw [← r.len]; exact z)⟩
))
end
inductive Fl where
  | none | num (i : Int) | str (s : Str)
  deriving DecidableEq
def flOf : V → Option Fl
  | .non => some .none
  | .bl b => some (.num (if b then 1 else 0))
  | .int i => some (.num i)
  | .str s => some (.str s)
  | _ => none
def RF : Rl Fl := fun _ v a => flOf v = some a
instance : Up RF := ⟨fun _ h => h⟩
instance : UpN RF := ⟨fun h => h⟩
theorem RF.flat {H : Hp} {v : V} {a : Fl} (h : RF H v a) : flatV v = true := @NI.run _ (by exact NI.carry : NI.Carry (by
  unfold RF flOf at h
  cases v <;> first | rfl | cases h
))
theorem RF.eq {H : Hp} {x y : V} {a b : Fl} (h1 : RF H x a) (h2 : RF H y b) : eqV x y = true ↔ a = b := @NI.run _ (by exact NI.carry : NI.Carry (by
  unfold RF flOf at h1 h2
  cases x with
  | non => cases y <;> cases h1 <;> cases h2 <;> simp [eqV]
  | bl c => cases y <;> cases h1 <;> cases h2 <;> (try cases c) <;> simp [eqV] <;> (try rename_i d; cases d) <;> simp [eqV]
  | int i => cases y <;> cases h1 <;> cases h2 <;> simp [eqV]
  | str z => cases y <;> cases h1 <;> cases h2 <;> simp [eqV]
  | _ => cases h1
))
end Wo
end
section
namespace Wo
open PySem PySem.Spec PyProof.Rows L2
open AutoSeq1 (wpAny_loadPart')
theorem enumT_new (t : Addr) (vs : Array Value) (c : Nat) (dd : Option Addr) (ss : Array (Option Value)) :
    Meets (Builtin.«enumerate.__new__» ⟨[.type "enumerate", .ref t], []⟩) (fun _ R s => s.heap.get? t = some { cls := .type "tuple", dict := dd, data := .seq vs c, slots := ss } ∧
      R (.ok (.ret (.ref (s.heap.push { cls := .type "tuple_iterator", data := .fields #[.ref t, .int 0 0] }).objs.size)))
        { s with heap := (s.heap.push { cls := .type "tuple_iterator", data := .fields #[.ref t, .int 0 0] }).push { cls := .type "enumerate", data := .fields #[.none, .bool false, .ref s.heap.objs.size, rawInt 0, .none, .none] } }) := @NI.run _ (by exact NI.carry : NI.Carry (by
  refine .of_wp fun prog w A R s hyp => ?_
  obtain ⟨hp, g, d, tk, os⟩ := s
  obtain ⟨ht, hyp⟩ := hyp
  have sub := sub_enumerate
  have isT : Heap.IsTuple (Shared.heap ⟨hp, g, d, tk, os⟩) t vs := ⟨_, ht, rfl, c, rfl⟩
  wp_walk using wpAny_loadPart' ht
  refine wpAny_stack_any fun st => wpAny_pure ?_
  split
  · rename_i k _ _ _ _ _
    cases (k == Value.type "enumerate") <;> (wp_walk using wpAny_loadPart' ht, wpAny_pyIter_tuple isT; exact ⟨_, rfl, hyp⟩)
  · wp_walk using wpAny_loadPart' ht, wpAny_pyIter_tuple isT
    exact ⟨_, rfl, hyp⟩
))
section
variable {prog : Program} {w : World} {A : Around} {E : Value → Shared → Prop} {s : Shared}
theorem enumT_call {t : Addr} {vs : Array Value} {Q : Value → Shared → Prop} (hT : s.heap.IsTuple t vs)
    (k : ∀ G, IsEnum G (s.heap.objs.size + 1) s.heap.objs.size 0 .none → G.IsTupleIter s.heap.objs.size t 0 → G.objs.size = s.heap.objs.size + 2 → (∀ b o, s.heap.get? b = some o → G.get? b = some o) → Q (.ref (s.heap.objs.size + 1)) { s with heap := G }) :
    wpAny (model prog w) A (call (.type "enumerate") [.ref t]) Q E s := @NI.run _ (by exact NI.carry : NI.Carry (by
  obtain ⟨⟨c, dd, dt, ss⟩, ht, hc, n, hd⟩ := hT
  obtain rfl : c = .type "tuple" := hc
  obtain rfl : dt = .seq vs n := hd
  have e1 : (s.heap.push { cls := .type "tuple_iterator", data := .fields #[.ref t, .int 0 0] }).objs.size = s.heap.objs.size + 1 := Heap.size_push ..
  have e2 := Heap.get?_push_size (s.heap.push { cls := .type "tuple_iterator", data := .fields #[.ref t, .int 0 0] }) (o := { cls := .type "enumerate", data := .fields #[.none, .bool false, .ref s.heap.objs.size, rawInt 0, .none, .none] }) rfl
  rw [e1] at e2
  refine callType_new F.called_enumerate (by decide) (F.typeCall_enumerate_1 _) (F.newCall_enumerate_1 _) (fun obj => F.args_object_init_2 obj _) F.entry_enumerate_new (enumT_new t vs n dd ss) ⟨ht, ?_⟩
  show _ ∧ _
  rw [e1]
  exact ⟨⟨_, e2, rfl⟩, k _ e2 ⟨_, Heap.get?_push_of_some _ (Heap.get?_push_size _ rfl), rfl, rfl⟩ (by rw [Heap.size_push, e1]) fun b o z => Heap.get?_push_of_some _ (Heap.get?_push_of_some _ z)⟩
))
theorem nextT_item {it t : Addr} {i : Nat} {vs : Array Value} {x : Value} {Q : Value → Shared → Prop} (ji : s.heap.IsTupleIter it t i) (jt : s.heap.IsTuple t vs) (jx : vs[i]? = some x)
    (k : ∀ G, G.IsTupleIter it t (i + 1) → Heap.SameBut it s.heap G → Q x { s with heap := G }) : wpAny (model prog w) A (Builtin.SmallTypes.nextOf (.ref it)) Q E s := @NI.run _ (by exact NI.carry : NI.Carry (by
  have ty := ji.typeIs
  obtain ⟨oi, gi, ci, di⟩ := ji
  obtain ⟨ot, gt, ct, nt, dt⟩ := jt
  unfold Builtin.SmallTypes.nextOf
  refine wpAny_bind (wpAny_callSpecial?_slot (name := Str.ofString "__next__") ty F.slot_tuple_iterator_next (wpAny_call_entry F.slot_tuple_iterator_next ty F.entry_tuple_iterator_next ?_ (F.args_tuple_iterator_next_1 _)))
  refine (show wpAny _ _ (field (.ref it) 0 >>= _) _ _ s from wpAny_bind (wpAny_field gi di (x := .ref t) rfl ?_))
  refine (show wpAny _ _ (if (Value.ref t == Value.none) = true then _ else _) _ _ s from ?_)
  rw [if_neg (show ¬ ((Value.ref t == Value.none) = true) from by simp)]
  refine (show wpAny _ _ (field (.ref it) 1 >>= _) _ _ s from wpAny_bind (wpAny_field gi di (x := .int i 0) rfl ?_))
  refine (show wpAny _ _ (seqItems? (.ref t) >>= _) _ _ s from wpAny_bind (wpAny_seqItems gt dt ?_))
  simp only [Int.toNat_natCast, jx]
  refine wpAny_bind (wpAny_setField gi di (by simp) (wpAny_pure ⟨x, rfl, wpAny_pure (k _ ⟨_, Heap.get?_update_self _ gi (Obj.isFreed_of_fields (Obj.data_mapFields di _)), (Obj.cls_mapFields ..).trans ci, ?_⟩ (Heap.SameBut.update ..))⟩))
  rw [Obj.data_mapFields di]
  simp [rawInt]
))
theorem nextT_end {it t : Addr} {i : Nat} {vs : Array Value} {Q : Value → Shared → Prop} (hh : A.handled = none) (ji : s.heap.IsTupleIter it t i) (jt : s.heap.IsTuple t vs) (jx : vs[i]? = none)
    (k : ∀ G e, Heap.ExtBut it s.heap G → (∃ o, G.get? e = some o ∧ o.cls = .type "StopIteration") → E (.ref e) { s with heap := G }) : wpAny (model prog w) A (Builtin.SmallTypes.nextOf (.ref it)) Q E s := @NI.run _ (by exact NI.carry : NI.Carry (by
  have ty := ji.typeIs
  obtain ⟨oi, gi, ci, di⟩ := ji
  obtain ⟨ot, gt, ct, nt, dt⟩ := jt
  unfold Builtin.SmallTypes.nextOf
  refine wpAny_bind (wpAny_callSpecial?_slot (name := Str.ofString "__next__") ty F.slot_tuple_iterator_next (wpAny_call_entry F.slot_tuple_iterator_next ty F.entry_tuple_iterator_next ?_ (F.args_tuple_iterator_next_1 _)))
  refine (show wpAny _ _ (field (.ref it) 0 >>= _) _ _ s from wpAny_bind (wpAny_field gi di (x := .ref t) rfl ?_))
  refine (show wpAny _ _ (if (Value.ref t == Value.none) = true then _ else _) _ _ s from ?_)
  rw [if_neg (show ¬ ((Value.ref t == Value.none) = true) from by simp)]
  refine (show wpAny _ _ (field (.ref it) 1 >>= _) _ _ s from wpAny_bind (wpAny_field gi di (x := .int i 0) rfl ?_))
  refine (show wpAny _ _ (seqItems? (.ref t) >>= _) _ _ s from wpAny_bind (wpAny_seqItems gt dt ?_))
  simp only [Int.toNat_natCast, jx]
  refine wpAny_bind (wpAny_rule (wpAny_bind (wpAny_setField gi di (by simp) ?_)))
  refine (show wpAny _ _ (newExc (.type "StopIteration") [] >>= _) _ _ _ from wpAny_bind ?_)
  simp only [newExc, newTuple]
  refine wpAny_bind (wpAny_newObj_type ?_ (by size_fits))
  refine wpAny_bind (m := firstArgMember _ _) (wpAny_of_eq (a := Value.none) (by first | rfl | (simp only [firstArgMember]; rfl)) (wpAny_newObj_type ?_ (by size_fits)))
  simp only [raiseNew]
  refine wpAny_bind (wpAny_handled ?_)
  first
    | rw [show A.in1.handled = none from hh]
    | rw [hh]
  exact wpAny_bind (wpAny_pure (wpAny_throw (k _ _ (((Heap.SameBut.update ..).extBut.push _).push _) ⟨_, Heap.get?_push_size _ rfl, rfl⟩)))
))
theorem enumT_next {e it t : Addr} {i : Nat} {vs : Array Value} {x old : Value} {Q : Value → Shared → Prop} (je : IsEnum s.heap e it i old) (ji : s.heap.IsTupleIter it t i) (jt : s.heap.IsTuple t vs) (jx : vs[i]? = some x) (ne : e ≠ it)
    (k : ∀ G, IsEnumOut G e it ((i : Int) + 1) x s.heap.objs.size → G.IsTupleIter it t (i + 1) → G.get? s.heap.objs.size = some { cls := .type "tuple", data := .seq #[.int i s.toks, x] } → G.objs.size = s.heap.objs.size + 1 →
      (∀ b o, b ≠ e → b ≠ it → s.heap.get? b = some o → G.get? b = some o) → Q (.ref s.heap.objs.size) { s with heap := G, toks := s.toks + 1 }) :
    wpAny (model prog w) A (Builtin.«enumerate.__next__» ⟨[.ref e], []⟩) (fun fin s' => ∃ v, fin = .done (.ret v) ∧ Q v s') E s := @NI.run _ (by exact NI.carry : NI.Carry (by
  obtain ⟨hp, g, d, tk, os⟩ := s
  have nei := Ne.symm ne
  refine (show wpAny _ _ (field (.ref e) 2 >>= _) _ _ _ from wpAny_bind (wpAny_field je rfl (x := .ref it) rfl (wpAny_bind (nextT_item ji jt jx fun G1 ji1 b1 => ?_))))
  have b1 : Heap.SameBut it hp G1 := b1
  have je1 : IsEnum G1 e it i old := (b1.2 e ne).trans je
  refine (show wpAny _ _ (field (.ref e) 3 >>= _) _ _ ⟨G1, g, d, tk, os⟩ from wpAny_bind (wpAny_field je1 rfl (x := rawInt i) rfl ?_))
  refine (show wpAny _ _ (field (.ref e) 4 >>= _) _ _ ⟨G1, g, d, tk, os⟩ from wpAny_bind (wpAny_field je1 rfl (x := .none) rfl ?_))
  refine (show wpAny _ _ (mkInt i >>= _) _ _ ⟨G1, g, d, tk, os⟩ from wpAny_bind (wpAny_mkInt ?_))
  refine (show wpAny _ _ (setField (.ref e) 3 (rawInt ((i : Int) + 1)) >>= _) _ _ ⟨G1, g, d, tk + 1, os⟩ from wpAny_bind (wpAny_setField_rec je1 (by simp) fun G2 je2 b2 => ?_))
  have b2 : Heap.SameBut e G1 G2 := b2
  have je2 : IsEnum G2 e it ((i : Int) + 1) old := je2
  refine (show wpAny _ _ (setField (.ref e) 4 .none >>= _) _ _ ⟨G2, g, d, tk + 1, os⟩ from wpAny_bind (wpAny_setField_rec je2 (by simp) fun G3 je3 b3 => ?_))
  have b3 : Heap.SameBut e G2 G3 := b3
  have je3 : IsEnum G3 e it ((i : Int) + 1) old := je3
  refine (show wpAny _ _ (newTuple [.int i tk, x] >>= _) _ _ ⟨G3, g, d, tk + 1, os⟩ from wpAny_bind (wpAny_newTuple ?_))
  have z3 : G3.objs.size = hp.objs.size := (b3.1.trans b2.1).trans b1.1
  have je4 : IsEnum (G3.push { cls := .type "tuple", data := .seq #[.int i tk, x] }) e it ((i : Int) + 1) old := Heap.get?_push_of_some _ je3
  have u4 : (G3.push { cls := .type "tuple", data := .seq #[.int i tk, x] }).get? hp.objs.size = some { cls := .type "tuple", data := .seq #[.int i tk, x] } := by
    rw [← z3]
    exact Heap.get?_push_size _ rfl
  have z4 : (G3.push { cls := .type "tuple", data := .seq #[.int i tk, x] }).objs.size = hp.objs.size + 1 := by rw [Heap.size_push, z3]
  have k4 : ∀ b o, b ≠ e → b ≠ it → hp.get? b = some o → (G3.push { cls := .type "tuple", data := .seq #[.int i tk, x] }).get? b = some o := fun b o n1 n2 q => Heap.get?_push_of_some _ (b3.extBut b o n1 (b2.extBut b o n1 (b1.extBut b o n2 q)))
  have ji4 : (G3.push { cls := .type "tuple", data := .seq #[.int i tk, x] }).IsTupleIter it t (i + 1) := by
    obtain ⟨o, q, r⟩ := (ji1.extBut b2.extBut nei).extBut b3.extBut nei
    exact ⟨o, Heap.get?_push_of_some _ q, r⟩
  have el : e < hp.objs.size := Heap.lt_size je
  generalize G3.push { cls := .type "tuple", data := .seq #[.int i tk, x] } = G4 at je4 u4 z4 k4 ji4 ⊢
  rw [z3]
  clear je3 b3 je2 b2 je1 b1 ji1 z3
  refine (show wpAny _ _ (Builtin.SmallTypes.ownedTupleIsFree (.ref e) >>= _) _ _ ⟨G4, g, d, tk + 1, os⟩ from wpAny_bind ?_)
  unfold Builtin.SmallTypes.ownedTupleIsFree
  refine wpAny_bind (wpAny_field je4 rfl (x := .none) rfl (wpAny_pure ?_))
  simp only [if_true]
  refine wpAny_bind (wpAny_rule (wpAny_bind (wpAny_field je4 rfl (x := old) rfl (wpAny_bind (wpAny_setField_rec je4 (by simp) fun G5 je5 b5 => ?_)))))
  have b5 : Heap.SameBut e G4 G5 := b5
  have je5 : IsEnum G5 e it ((i : Int) + 1) x := je5
  refine (show wpAny _ _ (Builtin.SmallTypes.ownedTupleHandOut (.ref e) (.ref hp.objs.size) >>= _) _ _ ⟨G5, g, d, tk + 1, os⟩ from wpAny_bind ?_)
  unfold Builtin.SmallTypes.ownedTupleHandOut
  refine wpAny_bind (wpAny_setField_rec je5 (by simp) fun G6 je6 b6 => ?_)
  have b6 : Heap.SameBut e G5 G6 := b6
  have je6 : IsEnumOut G6 e it ((i : Int) + 1) x hp.objs.size := je6
  refine wpAny_setField_rec je6 (by simp) fun G7 je7 b7 => ?_
  have b7 : Heap.SameBut e G6 G7 := b7
  have je7 : IsEnumOut G7 e it ((i : Int) + 1) x hp.objs.size := je7
  have ng : hp.objs.size ≠ e := Nat.ne_of_gt el
  refine wpAny_bind (wpAny_letGo (wpAny_pure ⟨_, rfl, k G7 je7 (((ji4.extBut b5.extBut nei).extBut b6.extBut nei).extBut b7.extBut nei) ?_ (by rw [b7.1, b6.1, b5.1, z4]) ?_⟩))
  · exact b7.extBut _ _ ng (b6.extBut _ _ ng (b5.extBut _ _ ng u4))
  · exact fun b o n1 n2 q => b7.extBut b o n1 (b6.extBut b o n1 (b5.extBut b o n1 (k4 b o n1 n2 q)))
))
theorem enumT_item {e it t : Addr} {i : Nat} {vs : Array Value} {x old : Value} {Q : Option Value → Shared → Prop} (je : IsEnum s.heap e it i old) (ji : s.heap.IsTupleIter it t i) (jt : s.heap.IsTuple t vs) (jx : vs[i]? = some x) (ne : e ≠ it)
    (k : ∀ G, IsEnumOut G e it ((i : Int) + 1) x s.heap.objs.size → G.IsTupleIter it t (i + 1) → G.get? s.heap.objs.size = some { cls := .type "tuple", data := .seq #[.int i s.toks, x] } → G.objs.size = s.heap.objs.size + 1 →
      (∀ b o, b ≠ e → b ≠ it → s.heap.get? b = some o → G.get? b = some o) → Q (some (.ref s.heap.objs.size)) { s with heap := G, toks := s.toks + 1 }) : wpAny (model prog w) A (pyNext (.ref e)) Q E s := @NI.run _ (by exact NI.carry : NI.Carry (by
  unfold pyNext
  exact wpAny_bind (wpAny_attempt (wpAny_callSpecial?_slot (name := Str.ofString "__next__") ⟨_, je, rfl⟩ F.slot_enumerate_next (wpAny_call_entry F.slot_enumerate_next ⟨_, je, rfl⟩ F.entry_enumerate_next (enumT_next je ji jt jx ne fun G a b c d z => wpAny_pure (k G a b c d z)) (F.args_enumerate_next_1 _))))
))
theorem enumT_end {e it t : Addr} {i : Nat} {vs : Array Value} {old : Value} {Q : Option Value → Shared → Prop} (hh : A.handled = none) (je : IsEnum s.heap e it i old) (ji : s.heap.IsTupleIter it t i) (jt : s.heap.IsTuple t vs) (jx : vs[i]? = none)
    (k : ∀ G, Heap.ExtBut it s.heap G → Q none { s with heap := G }) : wpAny (model prog w) A (pyNext (.ref e)) Q E s := @NI.run _ (by exact NI.carry : NI.Carry (by
  unfold pyNext
  refine wpAny_bind (wpAny_attempt (wpAny_callSpecial?_slot (name := Str.ofString "__next__") ⟨_, je, rfl⟩ F.slot_enumerate_next (wpAny_call_entry F.slot_enumerate_next ⟨_, je, rfl⟩ F.entry_enumerate_next ?_ (F.args_enumerate_next_1 _))))
  refine (show wpAny _ _ (field (.ref e) 2 >>= _) _ _ _ from wpAny_bind (wpAny_field je rfl (x := .ref it) rfl (wpAny_bind (nextT_end hh ji jt jx fun G z b q => ?_))))
  obtain ⟨o, ho, hc⟩ := q
  exact wpAny_bind (wpAny_isInstance (T := "StopIteration") (b := true) ⟨o, ho, hc⟩ isSubtype_stop (wpAny_pure (k _ b)))
))
end
def IteT (K : PySem.W.Frag) (a : Addr) : It where
  go := fun i H => ∃ (xs : List V) (x : V), SqT K H a xs ∧ xs[i]? = some x
  yld := fun i H v H' => ∃ T x, v = .ref T ∧ H T = none ∧ H' = upd H T (.tup [.int (i : Nat), x]) ∧ ∀ xs, SqT K H a xs → xs[i]? = some x
  stop := fun i H => ∃ xs : List V, SqT K H a xs ∧ xs.length ≤ i
theorem two_fp {b e it : Addr} (h : b ∈ [e, it]) : b = e ∨ b = it := @NI.run _ (by exact NI.carry : NI.Carry (by simpa using h
))
theorem turn_enumT {P : Program} {w : World} {K : PySem.W.Frag} {es : List Expr} {n : Nat} {tp : Pos} (a e it : Addr) :
    Turn P w K (.Tuple es n tp) (IteT K a) [e, it] e (fun i h => (∃ old, IsEnum h e it ((i : Nat) : Int) old) ∧ h.IsTupleIter it a i ∧ e ≠ it) where
  mem := List.mem_cons_self
  obj := fun i h ⟨⟨old, je⟩, ⟨o, go, co, dn⟩, _⟩ b hb => by
    rcases two_fp hb with rfl | rfl
    · exact ⟨_, je, fun v z => nomatch z⟩
    · exact ⟨o, go, fun v z => by rw [dn] at z; cases z⟩
  keep := fun i h h' ⟨⟨old, je⟩, ji, ne⟩ k => ⟨⟨old, k e List.mem_cons_self _ je⟩, ji.at fun o q => k it (by simp) o q, ne⟩
  item := by
    intro X eP ew eK hc i pins s σ H E I ff ⟨⟨old, je⟩, ji, ne⟩ ⟨xs, x, hq, hx⟩
    subst eP ew eK
    obtain ⟨its, rv, p, hz⟩ := I.tuple hq
    obtain ⟨u, hu, ru⟩ := rv.get hx
    have l1 : e < s.heap.objs.size := Heap.lt_size je
    have l2 : it < s.heap.objs.size := by
      obtain ⟨_, q, _⟩ := ji
      exact Heap.lt_size q
    have lb : ∀ b ∈ [e, it], b < s.heap.objs.size := fun b hb => by
      rcases two_fp hb with rfl | rfl
      · exact l1
      · exact l2
    refine enumT_item je ji p (x := u) (by simpa using hu) ne fun G jo ji1 gT gz gk => ⟨_, rfl, wpAny_letOwnedTupleGo_enum (s := { s with heap := G, toks := s.toks + 1 }) jo fun G2 je2 sb => ?_⟩
    have g2 : G2.get? s.heap.objs.size = some { cls := .type "tuple", data := .seq #[.int i s.toks, u] } := (sb.2 _ (Nat.ne_of_gt l1)).trans gT
    have I2 : Inv X pins σ (upd H s.heap.objs.size (.tup [.int (i : Nat), x])) { s with heap := G2, toks := s.toks + 1 } :=
      I.turnedNew (ch := [e, it]) (fun b o hb q => (sb.2 b (fun z => hb (z ▸ List.mem_cons_self))).trans (gk b o (fun z => hb (z ▸ List.mem_cons_self)) (fun z => hb (by simp [z])) q)) ff (Nat.le_refl _) ⟨by show 2 ≤ sizeLine; decide, [.int i s.toks, u], .cons ⟨_, rfl⟩ (.cons ru .nil), ⟨_, g2, rfl, _, rfl⟩⟩
    refine ⟨.ref s.heap.objs.size, _, I2, rfl, ⟨_, x, rfl, I.hok.fresh (Nat.le_refl _), rfl, fun ys hy => by rw [I.tuple_inj hy hq]; exact hx⟩, ⟨⟨u, ?_⟩, ji1.at fun o q => (sb.2 it (Ne.symm ne)).trans q, ne⟩, fun b hb => ?_⟩
    · rw [show ((i + 1 : Nat) : Int) = (i : Int) + 1 by omega]
      exact je2
    · rw [upd_ne (Nat.ne_of_lt (lb b hb))]
      exact (ff b hb).1
  done := by
    intro X eP ew eK hc i pins s σ H E I ff ⟨⟨old, je⟩, ji, ne⟩ ⟨xs, hq, hx⟩
    subst eP ew eK
    obtain ⟨its, rv, p, hz⟩ := I.tuple hq
    obtain ⟨f0, f1, f2, f3, f4, f5⟩ := ff it (by simp)
    have hl := rv.length
    exact enumT_end (I.ok.hd hc) je ji p (by simp; omega) fun G b => ⟨rfl, I.turned (t' := s.toks) (fun c o n q => b c o n q) f0 f1 f3 f4 f5⟩
  self := fun A i s Q E ⟨⟨_, je⟩, _⟩ h => wpAny_pyIter_enum je h
def iEnumT (K : PySem.W.Frag) (ta : TA) : TI := fun σ H R => ta σ H fun vs H1 => ∃ a xs, vs = [.ref a] ∧ SqT K H1 a xs ∧ R (IteT K a) H1
theorem pi_enumT {X : Cx} {K : PySem.W.Frag} {e : Expr} {ta : TA} {p pos tp : Pos} {es : List Expr} {n : Nat} (hg : Gl X "enumerate") (hm : X.mg "enumerate" = none) (ha : PA X [e] ta) (hs : starEach [e] X.env = [(false, eval e X.env)] := by rfl) (hK : X.K = K := by rfl) :
    PI X (.Tuple es n tp) (.Call (.Name "enumerate" p) [e] [] pos) (iEnumT K ta) := @NI.run _ (by exact NI.carry : NI.Carry (by
  subst hK
  refine ⟨fun pins s σ H R I h => PyProof.Rows.Call_ (ld_blt I hg hm boot_enumerate (PyProof.Rows.callWith_type1 (thn (ha.run pos pins s σ H _ I h) fun us s1 ⟨vs, H1, I1, r1, q1⟩ => ?_) hs rfl))⟩
  obtain ⟨a, xs, rfl, hq, q⟩ := q1
  obtain ⟨u, rfl, ru⟩ := vals1 r1
  cases ru
  obtain ⟨its, rv, pt, hz⟩ := I1.tuple hq
  refine enumT_call pt fun G je ji gz gk => wpAny_pyIter_enum je ?_
  refine ⟨s1.heap.objs.size + 1, [s1.heap.objs.size + 1, s1.heap.objs.size], _, _, H1, rfl, I1.kept (t' := s1.toks) gk, turn_enumT a (s1.heap.objs.size + 1) s1.heap.objs.size, ⟨⟨.none, je⟩, ji, Nat.succ_ne_self _⟩, fun b hb => ?_, q⟩
  have hle : s1.heap.objs.size ≤ b := by
    rcases two_fp hb with z | z <;> rw [z]
    · exact Nat.le_succ _
    · exact Nat.le_refl _
  exact I1.fpOk hle (I1.hok.fresh hle)
))
section
variable {α : Type} {R : Rl α} {K : PySem.W.Frag} {H : Hp}
theorem wk_enumT [Up R] {a : Addr} {as : List α} (h : RT K R H (.ref a) as) : Wk (IteT K a) H (RP K RI R) ((rgI 0 as.length).zip as) := @NI.run _ (by exact NI.carry : NI.Carry (by
  obtain ⟨p, vs, e, hs, hr, hz⟩ := h
  cases e
  have hl := hr.len
  have hlz : ((rgI 0 as.length).zip as).length = as.length := by rw [List.length_zip, rgI_len, Nat.min_self]
  have at_ : ∀ {i : Nat} {c : Int × α}, ((rgI 0 as.length).zip as)[i]? = some c → c.1 = ((i : Nat) : Int) ∧ as[i]? = some c.2 := fun {i c} hb => by
    obtain ⟨c1, c2⟩ := zip_get hb
    have hi : i < as.length := by
      have := (List.getElem?_eq_some_iff.mp hb).1
      omega
    rw [rgI_get hi] at c1
    have := Option.some.inj c1
    exact ⟨by omega, c2⟩
  refine ⟨fun i H' s hi => ⟨vs, vs[i]'(by omega), Same.seqT s hs, by simp [show i < vs.length by omega]⟩, fun H' s => ⟨vs, Same.seqT s hs, by omega⟩, fun i H' x H'' c s hb hy => ?_, fun i G D o x H'' c s hD hb hy => ?_⟩
  · obtain ⟨T, x1, rfl, hT, rfl, k1⟩ := hy
    obtain ⟨c1, c2⟩ := at_ hb
    obtain ⟨d1, e1, r1⟩ := hr.get (k1 vs (Same.seqT s hs))
    rw [c2] at e1
    cases e1
    exact ⟨Same.new hT, RP.mk (a := c.1) (b := c.2) hT (by rw [c1]; rfl) (Up.up s r1)⟩
  · obtain ⟨T, x1, rfl, hT, rfl, k1⟩ := hy
    have s' : Same H (upd G D o) := s.trans (Same.new hD)
    obtain ⟨c1, c2⟩ := at_ hb
    obtain ⟨d1, e1, r1⟩ := hr.get (k1 vs (Same.seqT s' hs))
    rw [c2] at e1
    cases e1
    have hTD : T ≠ D := fun z => by
      rw [z, upd_same] at hT
      cases hT
    rw [upd_ne hTD] at hT
    exact ⟨upd G T (.tup [.int (i : Nat), x1]), Same.new hT, by rw [upd_ne (Ne.symm hTD)]; exact hD, upd_comm hTD, RP.mk (a := c.1) (b := c.2) hT (by rw [c1]; rfl) (Up.up s r1)⟩
))
end
end Wo
end
section
namespace Wo
open PySem PySem.Spec PyProof.Rows L2
def TabO (P : Addr) : HO := .ext fun h => ∃ ps : Array Value, h.get? P = some { cls := .none, data := .fields ps } ∧ TriplesOk ps.toList
end Wo
end
section
namespace Wo
open PySem PySem.Spec PyProof.Rows L2
end Wo
end
section
namespace Wo
open PySem PySem.Spec PyProof.Rows L2
end Wo
end
section
namespace Wo
open PySem PySem.Spec PyProof.Rows L2
open PySem.W (Frag)
def GT (K : Frag) (gs : List (Pa × Str)) (H : Hp) : Prop := ∀ t ∈ gs, H (pAd K (t.1 K)) = some (TabO (pAd K (t.1 K)))
theorem GT.up {K : Frag} {gs : List (Pa × Str)} {H H' : Hp} (e : Same H H') (h : GT K gs H) : GT K gs H' := fun t ht => e _ _ (h t ht)
theorem GT.ext {K : Frag} {gs : List (Pa × Str)} {H H' : Hp} (e : LamX.ExtN H H') (h : GT K gs H) : GT K gs H' := fun t ht => e _ _ (h t ht) fun ps z => by unfold TabO at z; cases z
theorem GT.own {K : Frag} {gs : List (Pa × Str)} {H : Hp} {p : Addr} {xs ys : List V} (h : H p = some (.lst xs)) (t : GT K gs H) : GT K gs (upd H p (.lst ys)) := fun q hq => by
  rw [upd_ne (fun z => by
    have := t q hq
    rw [z, h] at this
    unfold TabO at this
    cases this)]
  exact t q hq
section
variable {K : Frag} {α β : Type} {R : Rl α} [Up R] {S : Rl β} [Up S] {σ : L2.St} {H : Hp} {Q : VK} {g : TG} {tt : TT} {te tl : TE} {ta : TA} {vs : List Nat} {as : List α} {bs : List β} {x y : V}
theorem rd_lcETf (q : ta σ H fun us H1 => ∃ a xs, us = [.ref a] ∧ SqT K H1 a xs ∧ LcF (IteT K a) H1 g tt te vs σ Q) : tLc (iEnumT K ta) g (tHidT tt) (tHid te) vs σ H Q := q
theorem rd_lcZA (q : ta σ H fun us H1 => ∃ a b xs ys, us = [.ref a, .ref b] ∧ ((SqL K H1 a xs ∧ SqL K H1 b ys ∧ LcK (Itz K a b) H1 g te vs σ Q) ∨ (SqT K H1 a xs ∧ SqT K H1 b ys ∧ LcK (RZ.ItzT K a b) H1 g te vs σ Q))) : tLc (RZ.iZipA K ta) g tYes (tHid te) vs σ H Q := q
end
end Wo
end
section
namespace Wo
open PySem PySem.Spec PyProof.Rows L2
end Wo
end
section
namespace Wo
open PySem PySem.Spec PyProof.Rows L2
open PySem.W (Frag)
structure KwE (K : Frag) (f : Addr) (y : Str) (A : Addr) : Prop where
  at_ : ∀ oc od fd osl, K.lookup f = some ⟨oc, od, .func fd, osl⟩ → ∃ D, fd.kwdefaults = .ref D ∧ PySem.W.nsIn K D y = some (some (.ref A))
  em : ∀ H, SqT K H A []
theorem KwE.funD {K : Frag} {f A : Addr} {y x qual : Str} {params : Arguments} {body : List Stmt} {scope : Scope} {fd : FuncData} (h : KwE K f y A) (F : FunD K x qual params body scope [] [] f fd) : FunD K x qual params body scope [] [(y, .ref A)] f fd := @NI.run _ (by exact NI.carry : NI.Carry (by
  obtain ⟨⟨oc, od, dV, kV, doc, pm, an, cdv, ct, osl, rfl, lk, hcd, hD, _⟩, kp⟩ := F
  obtain ⟨D, hk, hn⟩ := h.at_ _ _ _ _ lk
  obtain rfl : kV = .ref D := hk
  exact ⟨⟨oc, od, dV, .ref D, doc, pm, an, cdv, ct, osl, rfl, lk, hcd, hD, .inr ⟨D, rfl, fun q hq => by
    obtain rfl := List.mem_singleton.mp hq
    exact ⟨_, hn, rfl⟩⟩⟩, kp⟩
))
end Wo
end
section
namespace Wo
open PySem PySem.Spec PyProof.Rows L2
end Wo
end
section
namespace Wo
open PySem PySem.Spec PyProof.Rows L2
open PySem.W (Frag)
structure KwN (K : Frag) (f : Addr) (y : Str) : Prop where
  at_ : ∀ oc od fd osl, K.lookup f = some ⟨oc, od, .func fd, osl⟩ → ∃ D, fd.kwdefaults = .ref D ∧ PySem.W.nsIn K D y = some (some .none)
theorem KwN.funD {K : Frag} {f : Addr} {y x qual : Str} {params : Arguments} {body : List Stmt} {scope : Scope} {fd : FuncData} (h : KwN K f y) (F : FunD K x qual params body scope [] [] f fd) : FunD K x qual params body scope [] [(y, .non)] f fd := @NI.run _ (by exact NI.carry : NI.Carry (by
  obtain ⟨⟨oc, od, dV, kV, doc, pm, an, cdv, ct, osl, rfl, lk, hcd, hD, _⟩, kp⟩ := F
  obtain ⟨D, hk, hn⟩ := h.at_ _ _ _ _ lk
  obtain rfl : kV = .ref D := hk
  exact ⟨⟨oc, od, dV, .ref D, doc, pm, an, cdv, ct, osl, rfl, lk, hcd, hD, .inr ⟨D, rfl, fun q hq => by
    obtain rfl := List.mem_singleton.mp hq
    exact ⟨_, hn, rfl⟩⟩⟩, kp⟩
))
def fKwN (p : Pa) (y : Str) (K : Frag) : Bool := match K.lookup (p K) with
  | some ⟨_, _, .func fd, _⟩ => (match fd.kwdefaults with
    | .ref D => He.eqO (PySem.W.nsIn K D y) (some (some .none))
    | _ => false)
  | _ => false
theorem fKwN_ok {K : Frag} {p : Pa} {y : Str} (c : fKwN p y K = true) : KwN K (p K) y := @NI.run _ (by exact NI.carry : NI.Carry (by
  refine ⟨fun oc od fd osl h => ?_⟩
  unfold fKwN at c
  rw [h] at c
  dsimp only at c
  cases hk : fd.kwdefaults with
  | ref D =>
    rw [hk] at c
    exact ⟨D, rfl, He.eqO_ok c⟩
  | _ => rw [hk] at c; cases c
))
def CtorN (P : Program) (w : World) (K : Frag) (mg : Str → Option Value) (base : Heap) (k : Nat) (x : Str) (n : Nat) (ks : List Str) (sp : Sp) : Prop :=
  ∃ (C fi : Addr) (fd : FuncData) (ps : List Str) (g : List Value → List Value → List Value) (gV : List V → List V → List V) (spi : Sp), mg x = some (.ref C) ∧ Mk K C fi ∧ FnOk P w K mg base (CXW P w) k fi fd ps spi ∧ KBn K fd ps (n + 1) ks g gV ∧ (∀ vs zs, gV vs zs = vs ++ zs) ∧
    ∀ vs H Q E, sp vs H Q E → ∀ y dx, H y = none → H dx = none → dx ≠ y → spi (.ref y :: vs) (upd (upd H dx (.own y)) y (.ins C dx [])) (fun v H2 => v = .non ∧ Q (.ref y) H2) E
section
variable {P : Program} {w : World} {K : Frag} {mg : Str → Option Value} {base : Heap} {k n : Nat} {x name qual y : Str} {params : Arguments} {body : List Stmt} {scope : Scope} {f C : Addr} {ps : List Str} {sp spi : Sp} {fd : FuncData}
theorem ctorN_of (g : mg x = some (.ref C)) (M : Mk K C f) (h : KwN K f y) (F : FunD K name qual params body scope [] [] f fd) (G : FnOk P w K mg base (CXW P w) k f fd ps spi)
    (hb : ∀ (D : Addr) (doc pm : Value) (an : Option Addr) (cdv ct : Value) (us ws : List Value), us.length = n + 1 → ws.length = 1 → bindArgs (PySem.W.fnOf name qual params body scope .none (.ref D) doc pm an cdv ct) ⟨us, [y].zip ws⟩ = pure (ps.zip (us ++ ws)))
    (hi : ∀ vs H Q E, sp vs H Q E → ∀ z dx, H z = none → H dx = none → dx ≠ z → spi (.ref z :: vs) (upd (upd H dx (.own z)) z (.ins C dx [])) (fun v H2 => v = .non ∧ Q (.ref z) H2) E) : CtorN P w K mg base k x n [y] sp := @NI.run _ (by exact NI.carry : NI.Carry (by
  obtain ⟨mv, kb⟩ := FunD.kbinds0 (h.funD F) (ps := ps) (n + 1) [y] [] (fun us _ ws => us ++ ws) (by simp) (fun q hq => nomatch hq) (fun r1 _ r3 => r1.append r3) (fun D doc pm an cdv ct us mv ws l1 l2 l3 => hb D doc pm an cdv ct us ws l1 l3)
  exact ⟨C, f, fd, ps, _, _, spi, g, M, G, kb, fun _ _ => rfl, hi⟩
))
theorem ctorD_of (g : mg x = some (.ref C)) (M : Mk K C f) (h : KwN K f y) (F : FunD K name qual params body scope [] [] f fd) (G : FnOk P w K mg base (CXW P w) k f fd ps spi) (hn : n + 1 + 1 = ps.length)
    (hb : ∀ (D : Addr) (doc pm : Value) (an : Option Addr) (cdv ct : Value) (us : List Value) (u : Value), us.length = n + 1 → KwChain D [(y, u)] (bindArgs (PySem.W.fnOf name qual params body scope .none (.ref D) doc pm an cdv ct) ⟨us, []⟩) (ps.zip (us ++ [u])))
    (hi : ∀ vs H Q E, sp vs H Q E → ∀ z dx, H z = none → H dx = none → dx ≠ z → spi (.ref z :: vs) (upd (upd H dx (.own z)) z (.ins C dx [])) (fun v H2 => v = .non ∧ Q (.ref z) H2) E) :
    Ctor P w K mg base k x (fun vs H Q E => sp (vs ++ [.non]) H Q E) := @NI.run _ (by exact NI.carry : NI.Carry (by
  obtain ⟨ds, rd, b⟩ := FunD.binds0 (h.funD F) (ps := ps) (n + 1) (by simp) hn (fun D doc pm an cdv ct us ks l1 l2 => by
    match ks, l2 with
    | [u], _ => exact hb D doc pm an cdv ct us u l1)
  exact ⟨C, f, _, g, M, FnOk.raw G b rd, fun vs H Q E hs z dx h1 h2 h3 => hi (vs ++ [V.non]) H Q E hs z dx h1 h2 h3⟩
))
end
def tMakeKW (n m : Nat) (sp : Sp) (W : WX) (t tk : TA) : TE := fun σ H Q => t σ H fun vs H1 => tk σ H1 fun zs H2 => vs.length = n ∧ zs.length = m ∧ sp (vs ++ zs) H2 Q (atW W σ)
section
variable {X : Cx} {k j n : Nat} {sp : Sp} {W : WX} {x : Str} {p pos : Pos} {e : Expr} {es : List Expr} {kws : List Keyword} {t tk : TA} {ks : List Str} {f C : Addr} {fd : FuncData} {ps : List Str} {g : List Value → List Value → List Value} {gV : List V → List V → List V}
theorem run_makeKW {pins : List (Addr × Obj)} {σ : L2.St} {H : Hp} {s : Shared} {Q : VK} {us ws : List Value} {vs zs : List V} (M : Mk X.K C f) (F : FnOk X.prog X.w X.K X.mg X.base (CXW X.prog X.w) k f fd ps sp) (hr : Room (k + 1) X.A) (hb : KBn X.K fd ps (n + 1) ks g gV) (tk : Takes X W)
    (I : L2.Inv X pins σ H s) (r : Vals vs us) (rz : Vals zs ws) (l1 : vs.length = n) (l2 : zs.length = ks.length)
    (h : ∀ x dx, H x = Option.none → H dx = Option.none → dx ≠ x → sp (gV (V.ref x :: vs) zs) (upd (upd H dx (.own x)) x (.ins C dx [])) (fun v H2 => v = .non ∧ Q (.ref x) H2) (atW W σ)) :
    wpAny (model X.prog X.w) X.A (call (.ref C) us (ks.zip ws)) (EP X pins σ Q) X.xe s := @NI.run _ (by exact NI.carry : NI.Carry (by
  have hq := h (s.heap.objs.size + 1) s.heap.objs.size (I.hok.fresh (Nat.le_succ _)) (I.hok.fresh (Nat.le_refl _)) (Nat.ne_of_lt (Nat.lt_succ_self _))
  have I2 := L2.Inv.made (C := C) I
  have r1 : Vals (V.ref (s.heap.objs.size + 1) :: vs) (Value.ref (s.heap.objs.size + 1) :: us) := .cons rfl r
  have r2 := hb.rel r1 rz
  have n1 : (Value.ref (s.heap.objs.size + 1) :: us).length = n + 1 := by
    rw [List.length_cons, ← r.length, l1]
  refine wpAny_call (make_map (f := f) I.kIn M.makes M.init (beq_iff_eq.mp M.fn) (codeAny_mono (F.run _ X.stack _ _ ⟨Value.ref (s.heap.objs.size + 1) :: us, ks.zip ws⟩ (g (Value.ref (s.heap.objs.size + 1) :: us) ws) _ _ (atW W σ) (hr.make C us (ks.zip ws))
    (I2.env0.make C us (ks.zip ws)) (hb.to _ (Value.ref (s.heap.objs.size + 1) :: us) ws I2.kIn n1 (rz.length.symm.trans l2)) r2 hq) fun r s' hq' => ?_))
  cases r with
  | error e => exact tk e s' (XE.of_call I2 (fun cls d H' z => z) hq')
  | ok fl =>
    cases fl with
    | ret u =>
      obtain ⟨v, H', I3, rv, ev, q3⟩ := I2.after hq'
      subst ev
      exact ⟨rv, ⟨V.ref (s.heap.objs.size + 1), H', I3, rfl, q3⟩⟩
    | next => exact False.elim hq'
    | brk => exact False.elim hq'
    | cont => exact False.elim hq'
))
theorem pmKW (c : CtorN X.prog X.w X.K X.mg X.base k x n ks sp) (hr : Room j X.A) (tk' : Takes X W) (ha : PA X (e :: es) t) (hkw : PK X kws tk) (hk : k + 1 ≤ j := by decide) (hg : Gl X x := by rfl)
    (hall : (backToKw pos (keywordEach kws X.env)).all (·.1.isSome) = true := by rfl) (hks : (backToKw pos (keywordEach kws X.env)).filterMap (·.1) = ks := by rfl)
    (hdb : (x == ("__debug__" : Str)) = false := by decide) (he : starEach (e :: es) X.env = (false, eval e X.env) :: starEach es X.env := by rfl)
    (hpl : ((backTo pos (starEach (e :: es) X.env)).any (·.1) || (backToKw pos (keywordEach kws X.env)).any (·.1.isNone)) = false := by rfl) :
    PE X (.Call (.Name x p) (e :: es) kws pos) (tMakeKW n ks.length sp W t tk) := @NI.run _ (by exact NI.carry : NI.Carry (by
  obtain ⟨C, fi, fd, ps, g, gV, spi, hm, M, F, kb, hgv, hi⟩ := c
  obtain rfl : gV = fun vs zs => vs ++ zs := funext fun vs => funext fun zs => hgv vs zs
  refine ⟨fun pins s σ H Q I h => ?_⟩
  refine wpAny_Call_Name_kw (ld_glob I hg hm ?_ hdb)
  refine PySem.W.callWith_KW (h₀ := X.base) I.ok.mod.kin M.kp hall (thn (ha.run pos pins s σ H _ I h) fun us s1 ⟨vs, H1, I1, r, q⟩ => ?_) hpl he
  refine thn (hkw.run pos pins s1 σ H1 _ I1 q) fun ws s2 ⟨zs, H2, I2, rz, l1, l2, q2⟩ => ⟨I2.kIn, ?_⟩
  rw [hks]
  exact run_makeKW M F (hr.mono hk) kb tk' I2 r rz l1 l2 fun z dx h1 h2 h3 => hi (vs ++ zs) H2 Q (atW W σ) q2 z dx h1 h2 h3
))
theorem rd_makeKW {n m : Nat} {σ : L2.St} {H : Hp} {Q : VK} (q : t σ H fun vs H1 => tk σ H1 fun zs H2 => vs.length = n ∧ zs.length = m ∧ sp (vs ++ zs) H2 Q (atW W σ)) : tMakeKW n m sp W t tk σ H Q := q
end
end Wo
end
section
namespace Wo
open PySem PySem.Spec PySem.W PySem.Calls PyProof.Rows L2 PySem.F
abbrev bmKey : List Value := [.type "KeyError", .type "LookupError", .type "Exception", .type "BaseException", .type "object"]
theorem init_KeyError : InitF "KeyError" "KeyError.__init__" where
  star := by decide +kernel
  row := by kernel_rfl
  kind := by kernel_rfl
  entry := entryFor_alias (id' := "BaseException.__init__") (by rw [fastTable_eq_tree]; kernel_rfl) (by first | rfl | decide +kernel) (by decide +kernel) (by rw [fastTable_eq_tree]; kernel_rfl)
  slot := .of (owner := "KeyError") (n := "__init__") (by rw [typeLookup_type, builtinLookup_eq_fast]; kernel_rfl) (by decide +kernel) (by decide +kernel) (by decide +kernel) (by first | exact .inl (by decide +kernel) | exact .inr (by decide +kernel)) (by rw [isSubtype_type]; kernel_rfl)
theorem own_KeyError : OwnF "LookupError.__new__" bmKey := ⟨_, _, _, F.excBase_LookupError, rfl, rfl, rfl⟩
theorem kxs_KeyError : KxsFacts "KeyError" "KeyError.__init__" := ⟨by show builtinType _ = _; rw [builtinType_eq_fast]; kernel_rfl, by first | kernel_rfl | rfl⟩
theorem store_KeyError : StoreFacts "KeyError" bmKey "object.__setattr__" "object" where
  mro := by kernel_rfl
  slot := .of (owner := "object") (n := "__setattr__") (by rw [typeLookup_type, builtinLookup_eq_fast]; kernel_rfl) (by decide +kernel) (by decide +kernel) (by decide +kernel) (by first | exact .inl (by decide +kernel) | exact .inr (by decide +kernel)) (by rw [isSubtype_type]; kernel_rfl)
  entry := F.store_object.entry
  kind := by decide +kernel
  split := by decide +kernel
  hasOwner := by decide +kernel
  args := fun a b c => by unfold argsOk; kernel_rfl
  passes := fun self => by kernel_rfl
theorem bas_KeyError : Bas "KeyError" "LookupError.__new__" "KeyError.__init__" bmKey := ⟨init_KeyError, own_KeyError, kxs_KeyError, store_KeyError⟩
end Wo
end
section
namespace Wo
open PySem PySem.Spec PyProof.Rows L2
open PySem.W (Frag Hook)
section
variable {α : Type} (g : Addr → Option Obj)
def markQ (m : Nat) (new : List Addr) : List Addr → (Nat → List Addr → α) → α
  | [], k => k m new
  | b :: bs, k => HandSHeadRun.frNat b fun b => match Nat.beq (Nat.land 1 (Nat.shiftRight m b)) 0 with
    | true => HandSHeadRun.frNat (Nat.lor m (Nat.shiftLeft 1 b)) fun m => markQ m (b :: new) bs k
    | false => markQ m new bs k
def levelQ (m : Nat) (new : List Addr) : List Addr → (Nat → List Addr → α) → α
  | [], k => k m new
  | a :: as, k => match g a with
    | some o => markQ m new (He.refsD o) fun m new => levelQ m new as k
    | none => levelQ m new as k
def walkQ : Nat → Nat → List Addr → List Addr → (List Addr → α) → α
  | 0, _, all, fr, k => k (fr ++ all)
  | n + 1, m, all, fr, k => levelQ g m [] fr fun m new => walkQ n m (fr ++ all) new k
def fragQ : List Addr → Frag → (Frag → α) → α
  | [], K, k => k K
  | a :: as, K, k => match g a with
    | some o => fragQ as ((a, o) :: K) k
    | none => fragQ as K k
def dropQ (l : List Addr) : Frag → Frag → (Frag → α) → α
  | [], K, k => k K
  | (a, o) :: as, K, k => match l.any (fun b => Nat.beq a b) with
    | true => dropQ l as K k
    | false => dropQ l as ((a, o) :: K) k
def forceQ : List Addr → List Addr → (List Addr → α) → α
  | [], l, k => k l
  | a :: as, l, k => HandSHeadRun.frNat a fun a => forceQ as (a :: l) k
variable {g}
theorem markQ_at : ∀ (bs : List Addr) (m : Nat) (new : List Addr), ∃ m' new', ∀ (k : Nat → List Addr → α), markQ m new bs k = k m' new'
  | [], m, new => ⟨m, new, fun _ => rfl⟩
  | b :: bs, m, new => by
    cases h : Nat.beq (Nat.land 1 (Nat.shiftRight m b)) 0 with
    | true =>
      obtain ⟨m', n', e⟩ := markQ_at bs (Nat.lor m (Nat.shiftLeft 1 b)) (b :: new)
      refine ⟨m', n', fun k => ?_⟩
      unfold markQ
      rw [HandSHeadRun.frNat_eq]
      simp only [h]
      rw [HandSHeadRun.frNat_eq]
      exact e k
    | false =>
      obtain ⟨m', n', e⟩ := markQ_at bs m new
      refine ⟨m', n', fun k => ?_⟩
      unfold markQ
      rw [HandSHeadRun.frNat_eq]
      simp only [h]
      exact e k
theorem levelQ_at : ∀ (as : List Addr) (m : Nat) (new : List Addr), ∃ m' new', ∀ (k : Nat → List Addr → α), levelQ g m new as k = k m' new'
  | [], m, new => ⟨m, new, fun _ => rfl⟩
  | a :: as, m, new => by
    cases h : g a with
    | some o =>
      obtain ⟨m1, n1, e1⟩ := markQ_at (α := α) (He.refsD o) m new
      obtain ⟨m', n', e⟩ := levelQ_at as m1 n1
      refine ⟨m', n', fun k => ?_⟩
      unfold levelQ
      rw [h]
      show markQ m new (He.refsD o) _ = _
      rw [e1]
      exact e k
    | none =>
      obtain ⟨m', n', e⟩ := levelQ_at as m new
      refine ⟨m', n', fun k => ?_⟩
      unfold levelQ
      rw [h]
      exact e k
theorem walkQ_at : ∀ (n m : Nat) (all fr : List Addr), ∃ l, ∀ (k : List Addr → α), walkQ g n m all fr k = k l
  | 0, m, all, fr => ⟨fr ++ all, fun _ => rfl⟩
  | n + 1, m, all, fr => by
    obtain ⟨m1, n1, e1⟩ := levelQ_at (α := α) (g := g) fr m []
    obtain ⟨l, e⟩ := walkQ_at n m1 (fr ++ all) n1
    refine ⟨l, fun k => ?_⟩
    unfold walkQ
    rw [e1]
    exact e k
def InG (g : Addr → Option Obj) (K : Frag) : Prop := ∀ a o, K.lookup a = some o → g a = some o
theorem InG.cons {K : Frag} {a : Addr} {o : Obj} (h : InG g K) (ha : g a = some o) : InG g ((a, o) :: K) := fun b u q => by
  rw [List.lookup_cons] at q
  by_cases e : b = a
  · subst e
    simp at q
    rw [← q]
    exact ha
  · rw [show (b == a) = false by simpa using e] at q
    exact h b u q
theorem fragQ_at : ∀ (as : List Addr) (K : Frag), InG g K → ∃ K', InG g K' ∧ (∀ c ∈ K', g c.1 = some c.2 ∨ c ∈ K) ∧ ∀ (k : Frag → α), fragQ g as K k = k K'
  | [], K, h => ⟨K, h, fun _ q => .inr q, fun _ => rfl⟩
  | a :: as, K, h => by
    cases q : g a with
    | some o =>
      obtain ⟨K', h1, h3, h2⟩ := fragQ_at as ((a, o) :: K) (h.cons q)
      refine ⟨K', h1, fun c hc => ?_, fun k => ?_⟩
      · rcases h3 c hc with z | z
        · exact .inl z
        · rcases List.mem_cons.mp z with rfl | z
          · exact .inl q
          · exact .inr z
      · unfold fragQ
        rw [q]
        exact h2 k
    | none =>
      obtain ⟨K', h1, h3, h2⟩ := fragQ_at as K h
      refine ⟨K', h1, h3, fun k => ?_⟩
      unfold fragQ
      rw [q]
      exact h2 k
theorem dropQ_at {l : List Addr} : ∀ (as K : Frag), (∀ c ∈ as, g c.1 = some c.2) → InG g K → ∃ K', InG g K' ∧ ∀ (k : Frag → α), dropQ l as K k = k K'
  | [], K, _, h => ⟨K, h, fun _ => rfl⟩
  | (a, o) :: as, K, ha, h => by
    cases q : l.any (fun b => Nat.beq a b) with
    | true =>
      obtain ⟨K', h1, h2⟩ := dropQ_at as K (fun c hc => ha c (List.mem_cons_of_mem _ hc)) h
      refine ⟨K', h1, fun k => ?_⟩
      unfold dropQ
      rw [q]
      exact h2 k
    | false =>
      obtain ⟨K', h1, h2⟩ := dropQ_at as ((a, o) :: K) (fun c hc => ha c (List.mem_cons_of_mem _ hc)) (h.cons (ha _ List.mem_cons_self))
      refine ⟨K', h1, fun k => ?_⟩
      unfold dropQ
      rw [q]
      exact h2 k
theorem forceQ_at : ∀ (as l : List Addr), ∃ l', ∀ (k : List Addr → α), forceQ as l k = k l'
  | [], l => ⟨l, fun _ => rfl⟩
  | a :: as, l => by
    obtain ⟨l', e⟩ := forceQ_at as (a :: l)
    refine ⟨l', fun k => ?_⟩
    unfold forceQ
    rw [HandSHeadRun.frNat_eq]
    exact e k
end
section
variable {n : Nat} {fs : List (Frag → Bool)} {ds : List DefX} {es : List EX} {ts : List (Pa × Str)} {g : Addr → Option Obj}
def seesQ (fs : List (Frag → Bool)) (ds : List DefX) (es : List EX) (ts : List (Pa × Str)) (g : Addr → Option Obj) (K : Frag) : AlT := (obsY fs ds es K, decide (ts.map fun t => pAd K (t.1 K)).Nodup && ts.all fun t => tabOk g K (t.1 K))
def obsQG (n : Nat) (fs : List (Frag → Bool)) (ds : List DefX) (es : List EX) (ts : List (Pa × Str)) (g : Addr → Option Obj) : AlT :=
  walkQ g n (Nat.shiftLeft 1 mainGlobals) [] [mainGlobals] fun as => fragQ g (cStatics :: as) [] fun K1 => forceQ (ts.map fun t => pAd K1 (t.1 K1)) [] fun l => dropQ l K1 [] fun K2 => dropQ [] K2 [] fun K => seesQ fs ds es ts g K
theorem obsQG_at : ∃ K, InG g K ∧ obsQG n fs ds es ts g = seesQ fs ds es ts g K := @NI.run _ (by exact NI.carry : NI.Carry (by
  obtain ⟨as, e1⟩ := walkQ_at (α := AlT) (g := g) n (Nat.shiftLeft 1 mainGlobals) [] [mainGlobals]
  have h0 : InG g [] := fun a o q => by cases q
  obtain ⟨K1, i1, m1, e2⟩ := fragQ_at (α := AlT) (g := g) (cStatics :: as) [] h0
  have m1' : ∀ c ∈ K1, g c.1 = some c.2 := fun c hc => (m1 c hc).resolve_right (by simp)
  obtain ⟨l, e3⟩ := forceQ_at (α := AlT) (ts.map fun t => pAd K1 (t.1 K1)) []
  obtain ⟨K2, i2, m2, e4⟩ : ∃ K', InG g K' ∧ (∀ c ∈ K', g c.1 = some c.2) ∧ ∀ (k : Frag → AlT), dropQ l K1 [] k = k K' := by
    have : ∀ (as K : Frag), (∀ c ∈ as, g c.1 = some c.2) → (∀ c ∈ K, g c.1 = some c.2) → InG g K → ∃ K', InG g K' ∧ (∀ c ∈ K', g c.1 = some c.2) ∧ ∀ (k : Frag → AlT), dropQ l as K k = k K' := fun as => by
      induction as with
      | nil => exact fun K _ h2 h => ⟨K, h, h2, fun _ => rfl⟩
      | cons c as ih =>
        intro K h1 h2 h
        obtain ⟨a, o⟩ := c
        have ha := h1 _ List.mem_cons_self
        cases q : l.any (fun b => Nat.beq a b) with
        | true =>
          obtain ⟨K', p1, p2, p3⟩ := ih K (fun c hc => h1 c (List.mem_cons_of_mem _ hc)) h2 h
          refine ⟨K', p1, p2, fun k => ?_⟩
          unfold dropQ
          rw [q]
          exact p3 k
        | false =>
          obtain ⟨K', p1, p2, p3⟩ := ih ((a, o) :: K) (fun c hc => h1 c (List.mem_cons_of_mem _ hc)) (fun c hc => by
            rcases List.mem_cons.mp hc with rfl | hc
            · exact ha
            · exact h2 c hc) (h.cons ha)
          refine ⟨K', p1, p2, fun k => ?_⟩
          unfold dropQ
          rw [q]
          exact p3 k
    exact this K1 [] m1' (fun _ h => nomatch h) h0
  obtain ⟨K, i3, e5⟩ := dropQ_at (α := AlT) (l := []) K2 [] m2 h0
  refine ⟨K, i3, ?_⟩
  unfold obsQG
  rw [e1, e2, e3, e4, e5]
))
def hookQ (n : Nat) (fs : List (Frag → Bool)) (ds : List DefX) (es : List EX) (ts : List (Pa × Str)) : Hook where
  α := AlT
  obs := fun s => obsQG n fs ds es ts s.heap.get?
  val := fun _ => (valY ds es, true)
  says := fun _ h => ∃ K : Frag, K.In h ∧ SaysT fs ds es ts K h
  of := fun _ s e => by
    obtain ⟨K, hK, e0⟩ := obsQG_at (n := n) (fs := fs) (ds := ds) (es := es) (ts := ts) (g := s.heap.get?)
    have e := e0.symm.trans e
    have e1 := (Prod.mk.inj e).1
    have e2 : (_ && _) = true := (Prod.mk.inj e).2
    obtain ⟨c1, c2⟩ := He.ba e2
    exact ⟨K, hK, e1, of_decide_eq_true c1, fun t ht => tabOk_ok (List.all_eq_true.mp c2 t ht)⟩
  keeps := fun _ _ _ ⟨K, hK, c, c2, c3⟩ k => ⟨K, Frag.In.keeps hK k, c, c2, fun t ht => ⟨(c3 t ht).code, (c3 t ht).hd, (c3 t ht).no, k _ _ (c3 t ht).tab⟩⟩
theorem obsQG_eq {s : Shared} (h : ∀ a, g a = s.heap.get? a) : obsQG n fs ds es ts g = (hookQ n fs ds es ts).obs s := @NI.run _ (by exact NI.carry : NI.Carry (by
  have e : g = s.heap.get? := funext h
  rw [e] <;> rfl
))
end
end Wo
end
section
namespace Wo
open PySem PySem.Spec PyProof.Rows L2
open PySem.W (Frag Hook)
section
variable {n : Nat} {ts : List (Pa × Str)} {g : Addr → Option Obj}
theorem obsQG_all : ∃ K, InG g K ∧ ∀ (fs : List (Frag → Bool)) (ds : List DefX) (es : List EX), obsQG n fs ds es ts g = seesQ fs ds es ts g K := @NI.run _ (by exact NI.carry : NI.Carry (by
  obtain ⟨as, e1⟩ := walkQ_at (α := AlT) (g := g) n (Nat.shiftLeft 1 mainGlobals) [] [mainGlobals]
  have h0 : InG g [] := fun a o q => by cases q
  obtain ⟨K1, i1, m1, e2⟩ := fragQ_at (α := AlT) (g := g) (cStatics :: as) [] h0
  have m1' : ∀ c ∈ K1, g c.1 = some c.2 := fun c hc => (m1 c hc).resolve_right (by simp)
  obtain ⟨l, e3⟩ := forceQ_at (α := AlT) (ts.map fun t => pAd K1 (t.1 K1)) []
  obtain ⟨K2, i2, m2, e4⟩ : ∃ K', InG g K' ∧ (∀ c ∈ K', g c.1 = some c.2) ∧ ∀ (k : Frag → AlT), dropQ l K1 [] k = k K' := by
    have : ∀ (as K : Frag), (∀ c ∈ as, g c.1 = some c.2) → (∀ c ∈ K, g c.1 = some c.2) → InG g K → ∃ K', InG g K' ∧ (∀ c ∈ K', g c.1 = some c.2) ∧ ∀ (k : Frag → AlT), dropQ l as K k = k K' := fun as => by
      induction as with
      | nil => exact fun K _ h2 h => ⟨K, h, h2, fun _ => rfl⟩
      | cons c as ih =>
        intro K h1 h2 h
        obtain ⟨a, o⟩ := c
        have ha := h1 _ List.mem_cons_self
        cases q : l.any (fun b => Nat.beq a b) with
        | true =>
          obtain ⟨K', p1, p2, p3⟩ := ih K (fun c hc => h1 c (List.mem_cons_of_mem _ hc)) h2 h
          refine ⟨K', p1, p2, fun k => ?_⟩
          unfold dropQ
          rw [q]
          exact p3 k
        | false =>
          obtain ⟨K', p1, p2, p3⟩ := ih ((a, o) :: K) (fun c hc => h1 c (List.mem_cons_of_mem _ hc)) (fun c hc => by
            rcases List.mem_cons.mp hc with rfl | hc
            · exact ha
            · exact h2 c hc) (h.cons ha)
          refine ⟨K', p1, p2, fun k => ?_⟩
          unfold dropQ
          rw [q]
          exact p3 k
    exact this K1 [] m1' (fun _ h => nomatch h) h0
  obtain ⟨K, i3, e5⟩ := dropQ_at (α := AlT) (l := []) K2 [] m2 h0
  refine ⟨K, i3, fun fs ds es => ?_⟩
  unfold obsQG
  rw [e1, e2, e3, e4, e5]
))
theorem obsQG_join {fsA fsB : List (Frag → Bool)} {dsA dsB : List DefX} {esA esB : List EX} (h1 : obsQG n fsA dsA esA ts g = (valY dsA esA, true)) (h2 : obsQG n fsB dsB esB ts g = (valY dsB esB, true)) :
    obsQG n (fsA ++ fsB) (dsA ++ dsB) (esA ++ esB) ts g = (valY (dsA ++ dsB) (esA ++ esB), true) := @NI.run _ (by exact NI.carry : NI.Carry (by
  obtain ⟨K, _, e⟩ := obsQG_all (n := n) (ts := ts) (g := g)
  rw [e] at h1 h2 ⊢
  obtain ⟨a1, a2⟩ := Prod.mk.inj h1
  obtain ⟨b1, b2⟩ := Prod.mk.inj h2
  obtain ⟨a3, a4⟩ := Prod.mk.inj a1
  obtain ⟨b3, b4⟩ := Prod.mk.inj b1
  obtain ⟨a5, a6⟩ := Prod.mk.inj a3
  obtain ⟨b5, b6⟩ := Prod.mk.inj b3
  obtain ⟨a7, a8⟩ := He.ba a5
  obtain ⟨b7, b8⟩ := He.ba b5
  refine Prod.ext (Prod.ext (Prod.ext ?_ ?_) ?_) a2
  · show ((fsA ++ fsB).all (fun f => f K) && (dsA ++ dsB).all fun d => d.ok K) = true
    rw [List.all_append, List.all_append, a7, b7, a8, b8]
    rfl
  · show (dsA ++ dsB).map (fun d => fnX K (d.ad K)) = (dsA ++ dsB).map DefX.val
    rw [List.map_append, List.map_append]
    exact congr (congrArg (· ++ ·) a6) b6
  · show (esA ++ esB).map (fun e => fnE K (e.ad K)) = (esA ++ esB).map EX.val
    rw [List.map_append, List.map_append]
    exact congr (congrArg (· ++ ·) a4) b4
))
theorem map_join {β : Type} {o : Option β} {G : β → Addr → Option Obj} {fsA fsB : List (Frag → Bool)} {dsA dsB : List DefX} {esA esB : List EX} (h1 : o.map (fun x => obsQG n fsA dsA esA ts (G x)) = some (valY dsA esA, true)) (h2 : o.map (fun x => obsQG n fsB dsB esB ts (G x)) = some (valY dsB esB, true)) :
    o.map (fun x => obsQG n (fsA ++ fsB) (dsA ++ dsB) (esA ++ esB) ts (G x)) = some (valY (dsA ++ dsB) (esA ++ esB), true) := @NI.run _ (by exact NI.carry : NI.Carry (by
  cases o with
  | none => cases h1
  | some x => exact congrArg some (obsQG_join (Option.some.inj h1) (Option.some.inj h2))
))
end
theorem map_three {β γ δ ε : Type} {o : Option β} {f : β → γ} {h : β → δ} {k : β → ε} {a : γ} {b : δ} {c : ε} (e1 : o.map f = some a) (e2 : o.map h = some b) (e3 : o.map k = some c) : o.map (fun x => (f x, h x, k x)) = some (a, b, c) := @NI.run _ (by exact NI.carry : NI.Carry (by
  cases o with
  | none => cases e1
  | some x =>
    obtain rfl := Option.some.inj e1
    obtain rfl := Option.some.inj e2
    obtain rfl := Option.some.inj e3
    rfl
))
end Wo
end
section
namespace Wo
open PySem PySem.Spec PySem.W PyProof.Rows
section
variable {prog : Program} {w : World} {A : Around} {E : Value → Shared → Prop} {s : Shared} {K : Frag} {x C f : Addr} {ox : Obj} {od : Option Obj} {b tb : Value}
theorem ne_ownB {od : Obj} {Q : Value → Shared → Prop} (hu : A.units + 1 < cLine) (X : K.In s.heap) (I : InstAt s.heap x ox C (some od)) (hb : Looks (model prog w) s.heap (typeOf b) tb) (hn : notFirst K C tb = true) (he : findIn K (.ref C) "__eq__" = some (some (.ref f))) (hf : isFn K (.ref f) = true)
    (hne : findIn K (.ref C) "__ne__" = some (some (.builtin "object.__ne__"))) (hob : mroIn K C (.type "object") = some true)
    (h : wpAny (model prog w) A.in1 (call (.ref f) [.ref x, b]) (fun v s' => ∃ r, v = .bool r ∧ Q (.bool (!r)) s') E s) : wpAny (model prog w) A (richCompare .NotEq (.ref x) b) Q E s := @NI.run _ (by exact NI.carry : NI.Carry (by
  have FB := F.cmp_object
  obtain ⟨hp, g, d, t, os⟩ := s
  have sub : Looks (model prog w) hp (isInstance (.ref x) (.type "object")) true := I.type.andThen (looks_mroIn X hob)
  unfold richCompare
  simp only [oneThing_ref]
  refine wpAny_holding (wpAny_bind (wpAny_cRoomFor (Nat.lt_of_succ_lt hu) ?_))
  rw [cmpInfo_NotEq]
  dsimp only
  refine wpAny_bind (I.type.here (wpAny_bind (hb.here ?_)))
  have one : wpAny (model prog w) A (tryCompare (.ref x) "__ne__" b) (fun r s' => ∃ v, r = some (Value.bool (!v)) ∧ Q (.bool (!v)) s') E ⟨hp, g, d, t, os⟩ := by
    simp only [tryCompare]
    refine wpAny_bind (ifBound_blt X I hne FB.ne (wpAny_call (codeAny_call_builtin FB.ne.plain F.cmpEntry_ne (check_slot F.cmpKind_ne F.cmpSplit_ne sub (F.cmpArgs_ne _ _) ?_))))
    unfold Builtin.«object.__ne__»
    repeat (first
      | with_reducible refine wpAny_cRoomFor hu ?_
      | (refine wpAny_bind (m := callSpecialIfBound? (.ref x) (Str.ofString "__eq__") [b])
          (ifBound_K X I he hf (wpAny_mono h (fun r s' hr => by
            obtain ⟨b, rfl, hq⟩ := hr
            repeat (first | exact ⟨b, rfl, hq⟩ | exact ⟨b, rfl, wpAny_pure ⟨b, rfl, hq⟩⟩ | exact wpAny_pure ⟨b, rfl, wpAny_pure ⟨b, rfl, hq⟩⟩ | (refine wpAny_bind (m := truthy (.bool _)) (wpAny_truthy_bool ?_)) | wp_step)) fun _ _ e => e)))
      | wp_step)
  split
  · rename_i q
    have e : subIn K tb (.ref C) = some false := by
      rcases Bool.or_eq_true_iff.mp hn with e | e
      · rw [beq_iff_eq.mp e] at q; simp at q
      · exact beq_iff_eq.mp e
    refine wpAny_bind ((looks_subIn X e).here ?_)
    simp only [Bool.false_eq_true, if_false]
    refine wpAny_bind (wpAny_mono one (fun r s' z => ?_) fun _ _ e => e)
    obtain ⟨v, rfl, hq⟩ := z
    exact wpAny_pure hq
  · refine wpAny_bind (wpAny_pure ?_)
    simp only [Bool.false_eq_true, if_false]
    refine wpAny_bind (wpAny_mono one (fun r s' z => ?_) fun _ _ e => e)
    obtain ⟨v, rfl, hq⟩ := z
    exact wpAny_pure hq
))
end
end Wo
namespace Wo
open PySem PySem.Spec PyProof.Rows L2
def RSm (p : Addr) : Rl Unit := fun _ v _ => v = .ref p
instance {p : Addr} : Up (RSm p) := ⟨fun _ h => h⟩
end Wo
end
section
namespace Wo
open PySem PySem.Spec PyProof.Rows L2
end Wo
end
section
namespace Wo
open PySem PySem.Spec PySem.W PyProof.Rows
structure SlN (K : Frag) (C : Addr) (fs : List Str) (fi : Addr) : Prop where
  cl : SlX.SCls K C
  sl : ∀ i f, fs[i]? = some f → ∃ p, SlX.Slot1 K C f p i
  si : SlX.SIsi K C
  make : L2.Mk K C fi
  cs : isClsIn K C = true
  ty : typeIn K (.ref C) = some (.type "type")
def bSlots (K : Frag) (C : Addr) : List Str → Nat → Bool
  | [], _ => true
  | f :: fs, i => bSlot K C f i && bSlots K C fs (i + 1)
theorem bSlots_ok {K : Frag} {C : Addr} : ∀ {fs : List Str} {i : Nat}, bSlots K C fs i = true → ∀ j f, fs[j]? = some f → ∃ p, SlX.Slot1 K C f p (i + j)
  | [], _, _, j, f, h => by simp at h
  | g :: fs, i, c, j, f, h => by
    obtain ⟨c1, c2⟩ := He.ba c
    cases j with
    | zero =>
      obtain rfl := Option.some.inj h
      exact bSlot_ok c1
    | succ j =>
      have := bSlots_ok c2 j f h
      rw [show i + 1 + j = i + (j + 1) by omega] at this
      exact this
def fSlN (x : Str) (fs : List Str) (K : Frag) : Bool :=
  plainGet K (gA x K) Str.empty && (isClsIn K (gA x K) && (plainOver K (gA x K) && (He.eqO (findIn K (.ref (gA x K)) "__setattr__") (some (some (.builtin "object.__setattr__"))) &&
  (bSlots K (gA x K) fs 0 && (bMk K (gA x K) (mA x "__init__" K) &&
  (He.eqO (findIn K (.ref (gA x K)) "__class__") (some (some (.builtin "object.__class__"))) && (He.eqO (specialIn K (.builtin "object.__class__") "__get__") (some (some (.builtin "getset_descriptor.__get__"))) &&
  (decide (takesIn K (.builtin "object.__class__") = some true) && (decide (mroIn K (gA x K) (.type "object") = some true) && decide (typeIn K (.ref (gA x K)) = some (.type "type")))))))))))
theorem fSlN_ok {K : Frag} {x : Str} {fs : List Str} (c : fSlN x fs K = true) : SlN K (gA x K) fs (mA x "__init__" K) := @NI.run _ (by exact NI.carry : NI.Carry (by
  obtain ⟨c1, c⟩ := He.ba c
  obtain ⟨c2, c⟩ := He.ba c
  obtain ⟨c3, c⟩ := He.ba c
  obtain ⟨c4, c⟩ := He.ba c
  obtain ⟨c5, c⟩ := He.ba c
  obtain ⟨c7, c⟩ := He.ba c
  obtain ⟨c8, c⟩ := He.ba c
  obtain ⟨c9, c⟩ := He.ba c
  obtain ⟨c10, c⟩ := He.ba c
  obtain ⟨c11, c12⟩ := He.ba c
  exact ⟨⟨c1, c2, c3, He.eqO_ok c4⟩, fun i f h => by have := bSlots_ok c5 i f h; rw [Nat.zero_add] at this; exact this, ⟨He.eqO_ok c8, He.eqO_ok c9, of_decide_eq_true c10, of_decide_eq_true c11⟩, bMk_ok c7, c2, of_decide_eq_true c12⟩
))
end Wo
namespace Wo
open PySem PySem.Spec PyProof.Rows L2
def ObN (C : Addr) (H : Hp) (v : V) (xs : List V) : Prop := ∃ a dx, v = .ref a ∧ SlX.Slt H a C dx (xs.map some)
def Own (C : Addr) (H : Hp) (v : V) : Prop := ∃ a dx vs, v = .ref a ∧ SlX.Slt H a C dx vs
theorem ObN.own {C : Addr} {H : Hp} {v : V} {xs : List V} (h : ObN C H v xs) : Own C H v := @NI.run _ (by exact NI.carry : NI.Carry (by
  obtain ⟨a, dx, e, s⟩ := h
  exact ⟨a, dx, _, e, s⟩
))
theorem ObN.up {C : Addr} {H H' : Hp} {v : V} {xs : List V} (e : Same H H') (h : ObN C H v xs) : ObN C H' v xs := @NI.run _ (by exact NI.carry : NI.Carry (by
  obtain ⟨a, dx, q, s⟩ := h
  exact ⟨a, dx, q, Slt.up e s⟩
))
theorem HasTy.own {K : PySem.W.Frag} {C fi : Addr} {fs : List Str} {H : Hp} {v : V} (T : SlN K C fs fi) (h : Own C H v) : HasTy K H v (.ref C) := @NI.run _ (by exact NI.carry : NI.Carry (by
  obtain ⟨a, dx, vs, e, s⟩ := h
  exact .inr ⟨a, C, dx, vs, e, rfl, s, T.cl, T.si⟩
))
theorem rd_slN {K : PySem.W.Frag} {C fi : Addr} {fs : List Str} {H : Hp} {v x : V} {xs : List V} {f : Str} {i : Nat} (T : SlN K C fs fi) (h : ObN C H v xs) (hf : fs[i]? = some f) (hx : xs[i]? = some x) {Q : V → Prop} (q : Q x) :
    ∃ a C dx p vs i z, v = .ref a ∧ SlX.Slt H a C dx vs ∧ SlX.SCls K C ∧ SlX.Slot1 K C f p i ∧ vs[i]? = some (some z) ∧ Q z := @NI.run _ (by exact NI.carry : NI.Carry (by
  obtain ⟨a, dx, e, s⟩ := h
  obtain ⟨p, sp⟩ := T.sl i f hf
  exact ⟨a, C, dx, p, _, i, x, e, s, T.cl, sp, by rw [List.getElem?_map, hx]; rfl, q⟩
))
section
variable {X : Cx} {k : Nat} {g C : Addr} {sp : Sp}
theorem call_lenN (F : FnR X.prog X.w X.K X.mg X.base (CXW X.prog X.w) k g sp) (O : OwnM X.K C "__len__" g) (hr : Room (k + 1) X.A) :
    CallR X (.builtin "len") (fun vs H Q => ∃ x, vs = [x] ∧ Own C H x ∧ sp [x] H (fun z H' => ∃ n : Int, z = .int n ∧ 0 ≤ n ∧ n < 2 ^ 63 ∧ Q z H') E0) := @NI.run _ (by exact NI.carry : NI.Carry (by
  intro pins s σ H xs us Q I r h
  obtain ⟨x, rfl, ⟨p1, d1, vs, rfl, s1'⟩, q⟩ := h
  obtain ⟨u, rfl, ru⟩ := r.one
  cases (show u = Value.ref p1 from ru)
  obtain ⟨sl, od, _, J, _⟩ := SlX.slt_inst I s1'
  obtain ⟨m', hF⟩ := I.fr
  refine PySem.W.len_K hF I.ok.mod.kin J O.at_ O.fn (wpAny_mono (wpAny_call (SlX.run_at (us := [.ref p1]) (ws := [.ref p1]) F (Room.in1 hr) I.env0.in1 passF I (.cons rfl .nil) q)) (fun w s' z => ?_) fun _ _ x => x)
  obtain ⟨z', H', I', rz, n, ez, n0, n1, qz⟩ := z
  subst ez
  obtain ⟨t, rfl⟩ := (show ∃ t, w = Value.int n t from rz)
  exact ⟨⟨n0, n1⟩, .int n, H', I'.tok _, ⟨_, rfl⟩, qz⟩
))
theorem call_strN (F : FnR X.prog X.w X.K X.mg X.base (CXW X.prog X.w) k g sp) (O : OwnM X.K C "__str__" g) (hr : Room (k + 2) X.A) :
    CallR X (.type "str") (fun vs H Q => ∃ x, vs = [x] ∧ Own C H x ∧ sp [x] H (fun z H' => ∃ y, z = .str y ∧ Q z H') E0) := @NI.run _ (by exact NI.carry : NI.Carry (by
  intro pins s σ H xs us Q I r h
  obtain ⟨x, rfl, ⟨p1, d1, vs, rfl, s1'⟩, q⟩ := h
  obtain ⟨u, rfl, ru⟩ := r.one
  cases (show u = Value.ref p1 from ru)
  obtain ⟨sl, od, _, J, _⟩ := SlX.slt_inst I s1'
  have hr2 : Room k X.A.in1.in1 := (show Room (k + 1) X.A.in1 from Room.in1 hr).in1
  refine PySem.W.kso_call (by have := hr2.un; omega) I.kIn J O.at_ O.fn (wpAny_mono (wpAny_call (SlX.run_at (us := [.ref p1]) (ws := [.ref p1]) F hr2 I.env0.in1.in1 passF I (.cons rfl .nil) q)) (fun w s' z => ?_) fun _ _ x => x)
  obtain ⟨z', H', I', rz, y, ez, qz⟩ := z
  subst ez
  obtain ⟨t, rfl⟩ := (show ∃ t, w = Value.str y t from rz)
  exact ⟨.str y, H', I', ⟨t, rfl⟩, qz⟩
))
def rInN (C : Addr) (sp : Sp) (no : Bool) : R2 := fun y x H Q => Own C H x ∧ sp [x, y] H (fun z H' => ∃ b, z = .bl b ∧ Q (.bl (b != no)) H') E0
theorem op_inN (F : FnR X.prog X.w X.K X.mg X.base (CXW X.prog X.w) k g sp) (O : OwnM X.K C "__contains__" g) (hr : Room k X.A) : OpR X (compareOp .In) (rInN C sp false) := @NI.run _ (by exact NI.carry : NI.Carry (by
  intro pins s σ H y x u v Q I ry rx h
  obtain ⟨⟨p1, d1, vs, rfl, s1'⟩, q⟩ := h
  cases (show v = Value.ref p1 from rx)
  obtain ⟨sl, od, _, J, _⟩ := SlX.slt_inst I s1'
  obtain ⟨m', hF⟩ := I.fr
  refine PySem.W.in_K hF I.ok.mod.kin J O.at_ O.fn (wpAny_mono (wpAny_call (SlX.run_at (us := [.ref p1, u]) (ws := [.ref p1, y]) F hr I.env0 passF I (.cons rfl (.cons ry .nil)) q)) (fun w s' z => ?_) fun _ _ x => x)
  obtain ⟨z', H', I', rz, b, ez, qz⟩ := z
  subst ez
  cases (show w = Value.bool b from rz)
  refine wpAny_truthy_bool ?_
  rw [Bool.bne_false] at qz
  exact ⟨.bl b, H', I', rfl, qz⟩
))
theorem op_ninN (F : FnR X.prog X.w X.K X.mg X.base (CXW X.prog X.w) k g sp) (O : OwnM X.K C "__contains__" g) (hr : Room k X.A) : OpR X (compareOp .NotIn) (rInN C sp true) := @NI.run _ (by exact NI.carry : NI.Carry (by
  intro pins s σ H y x u v Q I ry rx h
  obtain ⟨⟨p1, d1, vs, rfl, s1'⟩, q⟩ := h
  cases (show v = Value.ref p1 from rx)
  obtain ⟨sl, od, _, J, _⟩ := SlX.slt_inst I s1'
  obtain ⟨m', hF⟩ := I.fr
  refine PySem.W.notIn_K hF I.ok.mod.kin J O.at_ O.fn (wpAny_mono (wpAny_call (SlX.run_at (us := [.ref p1, u]) (ws := [.ref p1, y]) F hr I.env0 passF I (.cons rfl (.cons ry .nil)) q)) (fun w s' z => ?_) fun _ _ x => x)
  obtain ⟨z', H', I', rz, b, ez, qz⟩ := z
  subst ez
  cases (show w = Value.bool b from rz)
  refine wpAny_truthy_bool ?_
  rw [show (b != true) = !b by cases b <;> rfl] at qz
  exact ⟨.bl (!b), H', I', rfl, qz⟩
))
def Rt (C : Addr) (H : Hp) (y : V) : Prop := Own C H y ∨ y = .non ∨ (∃ i, y = .int i) ∨ (∃ z, y = .str z) ∨ ∃ p xs, y = .ref p ∧ H p = some (.tup xs)
theorem Rt.looks {C : Addr} {pins : List (Addr × Obj)} {σ : L2.St} {H : Hp} {s : Shared} {y : V} {u : Value} (I : L2.Inv X pins σ H s) (ry : RelV y u) (h : Rt C H y) : ∃ tb, PySem.W.Looks (model X.prog X.w) s.heap (typeOf u) tb ∧ PySem.W.notFirst X.K C tb = true := @NI.run _ (by exact NI.carry : NI.Carry (by
  rcases h with ⟨p, dx, vs, rfl, s1⟩ | rfl | ⟨i, rfl⟩ | ⟨z, rfl⟩ | ⟨p, xs, rfl, hp⟩
  · cases (show u = Value.ref p from ry)
    obtain ⟨sl, od, _, J, _⟩ := SlX.slt_inst I s1
    exact ⟨_, J.type, by simp [PySem.W.notFirst]⟩
  · cases (show u = Value.none from ry)
    exact ⟨.type "NoneType", .of_pure rfl, by rfl⟩
  · obtain ⟨t, rfl⟩ := (show ∃ t, u = Value.int i t from ry)
    exact ⟨.type "int", .of_pure rfl, by rfl⟩
  · obtain ⟨t, rfl⟩ := (show ∃ t, u = Value.str z t from ry)
    exact ⟨.type "str", .of_pure rfl, by rfl⟩
  · cases (show u = Value.ref p from ry)
    obtain ⟨hz, us, r, o, hpp, hcl, n, hd⟩ := I.hok p _ hp
    refine ⟨.type "tuple", ?_, by rfl⟩
    rw [← hcl]
    exact (PySem.W.Looks.ld hpp).andThen .now
))
def rEqN (C : Addr) (sp : Sp) (no : Bool) : R2 := fun x y H Q => Own C H x ∧ Rt C H y ∧ sp [x, y] H (fun z H' => ∃ b, z = .bl b ∧ Q (.bl (b != no)) H') E0
theorem op_eqN (F : FnR X.prog X.w X.K X.mg X.base (CXW X.prog X.w) k g sp) (O : OwnM X.K C "__eq__" g) (hr : Room k X.A) : OpR X (compareOp .Eq) (rEqN C sp false) := @NI.run _ (by exact NI.carry : NI.Carry (by
  intro pins s σ H x y v u Q I rx ry h
  obtain ⟨⟨p1, d1, vs, rfl, s1'⟩, hy, q⟩ := h
  cases (show v = Value.ref p1 from rx)
  obtain ⟨sl, od, _, J, _⟩ := SlX.slt_inst I s1'
  obtain ⟨m', hF⟩ := I.fr
  obtain ⟨tb, hb, hn⟩ := hy.looks I ry
  show wpAny _ _ (richCompare .Eq (.ref p1) u) _ _ _
  refine PySem.W.cmp_K (op := .Eq) hr.units0 hF I.ok.mod.kin J hb hn O.at_ O.fn (wpAny_mono (wpAny_call (SlX.run_at (us := [.ref p1, u]) (ws := [.ref p1, y]) F hr I.env0 passF I (.cons rfl (.cons ry .nil)) q)) (fun w s' z => ?_) fun _ _ x => x)
  obtain ⟨z', H', I', rz, b, ez, qz⟩ := z
  subst ez
  cases (show w = Value.bool b from rz)
  rw [Bool.bne_false] at qz
  exact ⟨.bl b, H', I', rfl, qz⟩
))
theorem op_neN (F : FnR X.prog X.w X.K X.mg X.base (CXW X.prog X.w) k g sp) (O : OwnM X.K C "__eq__" g) (hne : PySem.W.findIn X.K (.ref C) "__ne__" = some (some (.builtin "object.__ne__"))) (hob : PySem.W.mroIn X.K C (.type "object") = some true) (hr : Room (k + 1) X.A) : OpR X (compareOp .NotEq) (rEqN C sp true) := @NI.run _ (by exact NI.carry : NI.Carry (by
  intro pins s σ H x y v u Q I rx ry h
  obtain ⟨⟨p1, d1, vs, rfl, s1'⟩, hy, q⟩ := h
  cases (show v = Value.ref p1 from rx)
  obtain ⟨sl, od, _, J, _⟩ := SlX.slt_inst I s1'
  obtain ⟨tb, hb, hn⟩ := hy.looks I ry
  show wpAny _ _ (richCompare .NotEq (.ref p1) u) _ _ _
  refine ne_ownB (by have := hr.in1.units0; exact this) I.kIn J hb hn O.at_ O.fn hne hob ?_
  refine wpAny_mono (wpAny_call (SlX.run_at (A := X.A.in1) (us := [.ref p1, u]) (ws := [.ref p1, y]) (E := E0) F hr.in1 I.env0.in1 passF I (.cons rfl (.cons ry .nil)) q)) (fun w s' z => ?_) fun _ _ x => x
  obtain ⟨z', H', I', rz, b, ez, qz⟩ := z
  subst ez
  cases (show w = Value.bool b from rz)
  rw [show (b != true) = !b by cases b <;> rfl] at qz
  exact ⟨b, rfl, .bl (!b), H', I', rfl, qz⟩
))
end
end Wo
end
section
namespace LW
open PySem PySem.Spec PyProof.Rows L2 Wo
def top (i : Nat) : Stmt := PySem.Challenge.pw_worthstead_k12_tables_told.main.body.getD i (.Pass ⟨0, 0, 0, 0⟩)
abbrev s_is_integer : Stmt := top 16
abbrev s_is_within : Stmt := top 17
abbrev s_is_run : Stmt := top 18
abbrev s_is_name : Stmt := top 19
abbrev s_are_names : Stmt := top 20
abbrev s_Lowest___init__ : Stmt := inClass (top 24) 1
abbrev s_lowest_of : Stmt := top 25
abbrev s_Ratio___init__ : Stmt := inClass (top 26) 1
abbrev s_Ratio_top : Stmt := inClass (top 26) 3
abbrev s_Ratio_bottom : Stmt := inClass (top 26) 4
abbrev s_Ratio_over : Stmt := inClass (top 26) 5
abbrev s_Ratio___add__ : Stmt := inClass (top 26) 7
abbrev s_Ratio___sub__ : Stmt := inClass (top 26) 8
abbrev s_Ratio___mul__ : Stmt := inClass (top 26) 9
abbrev s_Ratio___neg__ : Stmt := inClass (top 26) 10
abbrev s_Ratio___abs__ : Stmt := inClass (top 26) 11
abbrev s_Ratio___bool__ : Stmt := inClass (top 26) 12
abbrev s_Ratio___eq__ : Stmt := inClass (top 26) 13
abbrev s_Ratio___str__ : Stmt := inClass (top 26) 14
abbrev s_told_lowest : Stmt := top 27
abbrev s_ratio_from : Stmt := top 28
abbrev s_is_ratio : Stmt := top 29
abbrev s_require_ratio : Stmt := top 30
abbrev s_are_levels : Stmt := top 36
abbrev s_are_codes : Stmt := top 37
abbrev s_are_amounts : Stmt := top 38
abbrev s_Factor___init__ : Stmt := inClass (top 39) 1
abbrev s_Factor_of_names : Stmt := inClass (top 39) 2
abbrev s_Factor_levels : Stmt := inClass (top 39) 3
abbrev s_Factor_codes : Stmt := inClass (top 39) 4
abbrev s_Factor_kind : Stmt := inClass (top 39) 5
abbrev s_Factor___len__ : Stmt := inClass (top 39) 6
abbrev s_Factor___eq__ : Stmt := inClass (top 39) 7
abbrev s_Numbers___init__ : Stmt := inClass (top 40) 1
abbrev s_Numbers_ratios : Stmt := inClass (top 40) 2
abbrev s_Numbers_kind : Stmt := inClass (top 40) 3
abbrev s_Numbers___len__ : Stmt := inClass (top 40) 4
abbrev s_Numbers___eq__ : Stmt := inClass (top 40) 5
abbrev s_is_column : Stmt := top 41
abbrev s_worths_of : Stmt := top 42
abbrev s_are_columns : Stmt := top 45
abbrev s_require_length : Stmt := top 46
abbrev s_Table___init__ : Stmt := inClass (top 47) 1
abbrev s_Table_columns : Stmt := inClass (top 47) 2
abbrev s_Table_names : Stmt := inClass (top 47) 3
abbrev s_Table_total : Stmt := inClass (top 47) 4
abbrev s_Table_kinds : Stmt := inClass (top 47) 5
abbrev s_Table_require_names : Stmt := inClass (top 47) 6
abbrev s_Table_worths : Stmt := inClass (top 47) 8
abbrev s_Table_shown : Stmt := inClass (top 47) 11
abbrev s_Table_with_column : Stmt := inClass (top 47) 12
abbrev s_Table___getitem__ : Stmt := inClass (top 47) 20
abbrev s_Table___contains__ : Stmt := inClass (top 47) 21
abbrev s_Table___iter__ : Stmt := inClass (top 47) 22
abbrev s_Table___len__ : Stmt := inClass (top 47) 23
abbrev s_Table___eq__ : Stmt := inClass (top 47) 24
abbrev s_Table___str__ : Stmt := inClass (top 47) 25
abbrev s_w_reel : Stmt := top 49
abbrev s_w_turn : Stmt := top 50
abbrev s_w_any : Stmt := top 51
abbrev s_w_names : Stmt := top 52
abbrev s_w_levels : Stmt := top 53
abbrev s_w_worth : Stmt := top 54
abbrev s_w_codes : Stmt := top 55
abbrev s_w_column : Stmt := top 56
abbrev s_w_rows : Stmt := top 57
abbrev s_w_ratio : Stmt := top 58
abbrev s_w_made : Stmt := top 59
abbrev s_w_table : Stmt := top 60
abbrev s_w_text : Stmt := top 61
abbrev s_w_shown : Stmt := top 62
abbrev s_w_due : Stmt := top 63
abbrev s_w_worths : Stmt := top 64
abbrev s_w_with : Stmt := top 65
abbrev s_w_own : Stmt := top 66
abbrev s_w_columns_right : Stmt := top 67
abbrev s_w_rows_right : Stmt := top 68
abbrev s_w_changed_right : Stmt := top 69
abbrev s_w_right : Stmt := top 70
abbrev s_w_written : Stmt := top 71
abbrev s_law : Stmt := top 72
def d_is_integer : DefX := ⟨gA "is_integer", "is_integer", "is_integer", defArgs s_is_integer, defBody s_is_integer, defScope s_is_integer, []⟩
def d_is_within : DefX := ⟨gA "is_within", "is_within", "is_within", defArgs s_is_within, defBody s_is_within, defScope s_is_within, []⟩
def d_is_run : DefX := ⟨gA "is_run", "is_run", "is_run", defArgs s_is_run, defBody s_is_run, defScope s_is_run, []⟩
def d_is_name : DefX := ⟨gA "is_name", "is_name", "is_name", defArgs s_is_name, defBody s_is_name, defScope s_is_name, []⟩
def d_are_names : DefX := ⟨gA "are_names", "are_names", "are_names", defArgs s_are_names, defBody s_are_names, defScope s_are_names, []⟩
def d_Lowest___init__ : DefX := ⟨mA "Lowest" "__init__", "__init__", "Lowest.__init__", defArgs s_Lowest___init__, defBody s_Lowest___init__, defScope s_Lowest___init__, []⟩
def d_lowest_of : DefX := ⟨gA "lowest_of", "lowest_of", "lowest_of", defArgs s_lowest_of, defBody s_lowest_of, defScope s_lowest_of, []⟩
def d_Ratio___init__ : DefX := ⟨mA "Ratio" "__init__", "__init__", "Ratio.__init__", defArgs s_Ratio___init__, defBody s_Ratio___init__, defScope s_Ratio___init__, [.int 1]⟩
def d_Ratio_top : DefX := ⟨rA "property" "Ratio" "top", "top", "Ratio.top", defArgs s_Ratio_top, defBody s_Ratio_top, defScope s_Ratio_top, []⟩
def d_Ratio_bottom : DefX := ⟨rA "property" "Ratio" "bottom", "bottom", "Ratio.bottom", defArgs s_Ratio_bottom, defBody s_Ratio_bottom, defScope s_Ratio_bottom, []⟩
def d_Ratio_over : DefX := ⟨mA "Ratio" "over", "over", "Ratio.over", defArgs s_Ratio_over, defBody s_Ratio_over, defScope s_Ratio_over, []⟩
def d_Ratio___add__ : DefX := ⟨mA "Ratio" "__add__", "__add__", "Ratio.__add__", defArgs s_Ratio___add__, defBody s_Ratio___add__, defScope s_Ratio___add__, []⟩
def d_Ratio___sub__ : DefX := ⟨mA "Ratio" "__sub__", "__sub__", "Ratio.__sub__", defArgs s_Ratio___sub__, defBody s_Ratio___sub__, defScope s_Ratio___sub__, []⟩
def d_Ratio___mul__ : DefX := ⟨mA "Ratio" "__mul__", "__mul__", "Ratio.__mul__", defArgs s_Ratio___mul__, defBody s_Ratio___mul__, defScope s_Ratio___mul__, []⟩
def d_Ratio___neg__ : DefX := ⟨mA "Ratio" "__neg__", "__neg__", "Ratio.__neg__", defArgs s_Ratio___neg__, defBody s_Ratio___neg__, defScope s_Ratio___neg__, []⟩
def d_Ratio___abs__ : DefX := ⟨mA "Ratio" "__abs__", "__abs__", "Ratio.__abs__", defArgs s_Ratio___abs__, defBody s_Ratio___abs__, defScope s_Ratio___abs__, []⟩
def d_Ratio___bool__ : DefX := ⟨mA "Ratio" "__bool__", "__bool__", "Ratio.__bool__", defArgs s_Ratio___bool__, defBody s_Ratio___bool__, defScope s_Ratio___bool__, []⟩
def d_Ratio___eq__ : DefX := ⟨mA "Ratio" "__eq__", "__eq__", "Ratio.__eq__", defArgs s_Ratio___eq__, defBody s_Ratio___eq__, defScope s_Ratio___eq__, []⟩
def d_Ratio___str__ : DefX := ⟨mA "Ratio" "__str__", "__str__", "Ratio.__str__", defArgs s_Ratio___str__, defBody s_Ratio___str__, defScope s_Ratio___str__, []⟩
def d_told_lowest : DefX := ⟨gA "told_lowest", "told_lowest", "told_lowest", defArgs s_told_lowest, defBody s_told_lowest, defScope s_told_lowest, []⟩
def d_ratio_from : DefX := ⟨gA "ratio_from", "ratio_from", "ratio_from", defArgs s_ratio_from, defBody s_ratio_from, defScope s_ratio_from, []⟩
def d_is_ratio : DefX := ⟨gA "is_ratio", "is_ratio", "is_ratio", defArgs s_is_ratio, defBody s_is_ratio, defScope s_is_ratio, []⟩
def d_require_ratio : DefX := ⟨gA "require_ratio", "require_ratio", "require_ratio", defArgs s_require_ratio, defBody s_require_ratio, defScope s_require_ratio, []⟩
def d_are_levels : DefX := ⟨gA "are_levels", "are_levels", "are_levels", defArgs s_are_levels, defBody s_are_levels, defScope s_are_levels, []⟩
def d_are_codes : DefX := ⟨gA "are_codes", "are_codes", "are_codes", defArgs s_are_codes, defBody s_are_codes, defScope s_are_codes, []⟩
def d_are_amounts : DefX := ⟨gA "are_amounts", "are_amounts", "are_amounts", defArgs s_are_amounts, defBody s_are_amounts, defScope s_are_amounts, []⟩
def d_Factor___init__ : DefX := ⟨mA "Factor" "__init__", "__init__", "Factor.__init__", defArgs s_Factor___init__, defBody s_Factor___init__, defScope s_Factor___init__, []⟩
def d_Factor_of_names : DefX := ⟨rA "classmethod" "Factor" "of_names", "of_names", "Factor.of_names", defArgs s_Factor_of_names, defBody s_Factor_of_names, defScope s_Factor_of_names, []⟩
def d_Factor_levels : DefX := ⟨rA "property" "Factor" "levels", "levels", "Factor.levels", defArgs s_Factor_levels, defBody s_Factor_levels, defScope s_Factor_levels, []⟩
def d_Factor_codes : DefX := ⟨rA "property" "Factor" "codes", "codes", "Factor.codes", defArgs s_Factor_codes, defBody s_Factor_codes, defScope s_Factor_codes, []⟩
def d_Factor_kind : DefX := ⟨rA "property" "Factor" "kind", "kind", "Factor.kind", defArgs s_Factor_kind, defBody s_Factor_kind, defScope s_Factor_kind, []⟩
def d_Factor___len__ : DefX := ⟨mA "Factor" "__len__", "__len__", "Factor.__len__", defArgs s_Factor___len__, defBody s_Factor___len__, defScope s_Factor___len__, []⟩
def d_Factor___eq__ : DefX := ⟨mA "Factor" "__eq__", "__eq__", "Factor.__eq__", defArgs s_Factor___eq__, defBody s_Factor___eq__, defScope s_Factor___eq__, []⟩
def d_Numbers___init__ : DefX := ⟨mA "Numbers" "__init__", "__init__", "Numbers.__init__", defArgs s_Numbers___init__, defBody s_Numbers___init__, defScope s_Numbers___init__, []⟩
def d_Numbers_ratios : DefX := ⟨rA "property" "Numbers" "ratios", "ratios", "Numbers.ratios", defArgs s_Numbers_ratios, defBody s_Numbers_ratios, defScope s_Numbers_ratios, []⟩
def d_Numbers_kind : DefX := ⟨rA "property" "Numbers" "kind", "kind", "Numbers.kind", defArgs s_Numbers_kind, defBody s_Numbers_kind, defScope s_Numbers_kind, []⟩
def d_Numbers___len__ : DefX := ⟨mA "Numbers" "__len__", "__len__", "Numbers.__len__", defArgs s_Numbers___len__, defBody s_Numbers___len__, defScope s_Numbers___len__, []⟩
def d_Numbers___eq__ : DefX := ⟨mA "Numbers" "__eq__", "__eq__", "Numbers.__eq__", defArgs s_Numbers___eq__, defBody s_Numbers___eq__, defScope s_Numbers___eq__, []⟩
def d_is_column : DefX := ⟨gA "is_column", "is_column", "is_column", defArgs s_is_column, defBody s_is_column, defScope s_is_column, []⟩
def d_worths_of : DefX := ⟨gA "worths_of", "worths_of", "worths_of", defArgs s_worths_of, defBody s_worths_of, defScope s_worths_of, []⟩
def d_are_columns : DefX := ⟨gA "are_columns", "are_columns", "are_columns", defArgs s_are_columns, defBody s_are_columns, defScope s_are_columns, []⟩
def d_require_length : DefX := ⟨gA "require_length", "require_length", "require_length", defArgs s_require_length, defBody s_require_length, defScope s_require_length, []⟩
def d_Table___init__ : DefX := ⟨mA "Table" "__init__", "__init__", "Table.__init__", defArgs s_Table___init__, defBody s_Table___init__, defScope s_Table___init__, []⟩
def d_Table_columns : DefX := ⟨rA "property" "Table" "columns", "columns", "Table.columns", defArgs s_Table_columns, defBody s_Table_columns, defScope s_Table_columns, []⟩
def d_Table_names : DefX := ⟨rA "property" "Table" "names", "names", "Table.names", defArgs s_Table_names, defBody s_Table_names, defScope s_Table_names, []⟩
def d_Table_total : DefX := ⟨rA "property" "Table" "total", "total", "Table.total", defArgs s_Table_total, defBody s_Table_total, defScope s_Table_total, []⟩
def d_Table_kinds : DefX := ⟨rA "property" "Table" "kinds", "kinds", "Table.kinds", defArgs s_Table_kinds, defBody s_Table_kinds, defScope s_Table_kinds, []⟩
def d_Table_require_names : DefX := ⟨mA "Table" "require_names", "require_names", "Table.require_names", defArgs s_Table_require_names, defBody s_Table_require_names, defScope s_Table_require_names, []⟩
def d_Table_worths : DefX := ⟨mA "Table" "worths", "worths", "Table.worths", defArgs s_Table_worths, defBody s_Table_worths, defScope s_Table_worths, []⟩
def d_Table_shown : DefX := ⟨mA "Table" "shown", "shown", "Table.shown", defArgs s_Table_shown, defBody s_Table_shown, defScope s_Table_shown, []⟩
def d_Table_with_column : DefX := ⟨mA "Table" "with_column", "with_column", "Table.with_column", defArgs s_Table_with_column, defBody s_Table_with_column, defScope s_Table_with_column, []⟩
def d_Table___getitem__ : DefX := ⟨mA "Table" "__getitem__", "__getitem__", "Table.__getitem__", defArgs s_Table___getitem__, defBody s_Table___getitem__, defScope s_Table___getitem__, []⟩
def d_Table___contains__ : DefX := ⟨mA "Table" "__contains__", "__contains__", "Table.__contains__", defArgs s_Table___contains__, defBody s_Table___contains__, defScope s_Table___contains__, []⟩
def d_Table___iter__ : DefX := ⟨mA "Table" "__iter__", "__iter__", "Table.__iter__", defArgs s_Table___iter__, defBody s_Table___iter__, defScope s_Table___iter__, []⟩
def d_Table___len__ : DefX := ⟨mA "Table" "__len__", "__len__", "Table.__len__", defArgs s_Table___len__, defBody s_Table___len__, defScope s_Table___len__, []⟩
def d_Table___eq__ : DefX := ⟨mA "Table" "__eq__", "__eq__", "Table.__eq__", defArgs s_Table___eq__, defBody s_Table___eq__, defScope s_Table___eq__, []⟩
def d_Table___str__ : DefX := ⟨mA "Table" "__str__", "__str__", "Table.__str__", defArgs s_Table___str__, defBody s_Table___str__, defScope s_Table___str__, []⟩
def d_w_reel : DefX := ⟨gA "_law_reel", "_law_reel", "_law_reel", defArgs s_w_reel, defBody s_w_reel, defScope s_w_reel, []⟩
def d_w_turn : DefX := ⟨gA "_law_turn", "_law_turn", "_law_turn", defArgs s_w_turn, defBody s_w_turn, defScope s_w_turn, []⟩
def d_w_any : DefX := ⟨gA "_law_any", "_law_any", "_law_any", defArgs s_w_any, defBody s_w_any, defScope s_w_any, []⟩
def d_w_names : DefX := ⟨gA "_law_names", "_law_names", "_law_names", defArgs s_w_names, defBody s_w_names, defScope s_w_names, []⟩
def d_w_levels : DefX := ⟨gA "_law_levels", "_law_levels", "_law_levels", defArgs s_w_levels, defBody s_w_levels, defScope s_w_levels, []⟩
def d_w_worth : DefX := ⟨gA "_law_worth", "_law_worth", "_law_worth", defArgs s_w_worth, defBody s_w_worth, defScope s_w_worth, []⟩
def d_w_codes : DefX := ⟨gA "_law_codes", "_law_codes", "_law_codes", defArgs s_w_codes, defBody s_w_codes, defScope s_w_codes, []⟩
def d_w_column : DefX := ⟨gA "_law_column", "_law_column", "_law_column", defArgs s_w_column, defBody s_w_column, defScope s_w_column, []⟩
def d_w_rows : DefX := ⟨gA "_law_rows", "_law_rows", "_law_rows", defArgs s_w_rows, defBody s_w_rows, defScope s_w_rows, []⟩
def d_w_ratio : DefX := ⟨gA "_law_ratio", "_law_ratio", "_law_ratio", defArgs s_w_ratio, defBody s_w_ratio, defScope s_w_ratio, []⟩
def d_w_made : DefX := ⟨gA "_law_made", "_law_made", "_law_made", defArgs s_w_made, defBody s_w_made, defScope s_w_made, []⟩
def d_w_table : DefX := ⟨gA "_law_table", "_law_table", "_law_table", defArgs s_w_table, defBody s_w_table, defScope s_w_table, []⟩
def d_w_text : DefX := ⟨gA "_law_text", "_law_text", "_law_text", defArgs s_w_text, defBody s_w_text, defScope s_w_text, []⟩
def d_w_shown : DefX := ⟨gA "_law_shown", "_law_shown", "_law_shown", defArgs s_w_shown, defBody s_w_shown, defScope s_w_shown, []⟩
def d_w_due : DefX := ⟨gA "_law_due", "_law_due", "_law_due", defArgs s_w_due, defBody s_w_due, defScope s_w_due, []⟩
def d_w_worths : DefX := ⟨gA "_law_worths", "_law_worths", "_law_worths", defArgs s_w_worths, defBody s_w_worths, defScope s_w_worths, []⟩
def d_w_with : DefX := ⟨gA "_law_with", "_law_with", "_law_with", defArgs s_w_with, defBody s_w_with, defScope s_w_with, []⟩
def d_w_own : DefX := ⟨gA "_law_own", "_law_own", "_law_own", defArgs s_w_own, defBody s_w_own, defScope s_w_own, []⟩
def d_w_columns_right : DefX := ⟨gA "_law_columns_right", "_law_columns_right", "_law_columns_right", defArgs s_w_columns_right, defBody s_w_columns_right, defScope s_w_columns_right, []⟩
def d_w_rows_right : DefX := ⟨gA "_law_rows_right", "_law_rows_right", "_law_rows_right", defArgs s_w_rows_right, defBody s_w_rows_right, defScope s_w_rows_right, []⟩
def d_w_changed_right : DefX := ⟨gA "_law_changed_right", "_law_changed_right", "_law_changed_right", defArgs s_w_changed_right, defBody s_w_changed_right, defScope s_w_changed_right, []⟩
def d_w_right : DefX := ⟨gA "_law_right", "_law_right", "_law_right", defArgs s_w_right, defBody s_w_right, defScope s_w_right, []⟩
def d_w_written : DefX := ⟨gA "_law_written", "_law_written", "_law_written", defArgs s_w_written, defBody s_w_written, defScope s_w_written, []⟩
def d_law : DefX := ⟨gA "law", "law", "law", defArgs s_law, defBody s_law, defScope s_law, []⟩
def ds0 : List DefX := [d_is_integer, d_is_within, d_is_run, d_is_name, d_are_names, d_Lowest___init__, d_lowest_of, d_Ratio___init__, d_Ratio_top, d_Ratio_bottom, d_Ratio_over, d_Ratio___add__, d_Ratio___sub__, d_Ratio___mul__, d_Ratio___neg__, d_Ratio___abs__, d_Ratio___bool__, d_Ratio___eq__, d_Ratio___str__, d_told_lowest]
def ds1 : List DefX := [d_ratio_from, d_is_ratio, d_require_ratio, d_are_levels, d_are_codes, d_are_amounts, d_Factor___init__, d_Factor_of_names, d_Factor_levels, d_Factor_codes, d_Factor_kind, d_Factor___len__, d_Factor___eq__, d_Numbers___init__, d_Numbers_ratios, d_Numbers_kind, d_Numbers___len__, d_Numbers___eq__, d_is_column, d_worths_of]
def ds2 : List DefX := [d_are_columns, d_require_length, d_Table___init__, d_Table_columns, d_Table_names, d_Table_total, d_Table_kinds, d_Table_require_names, d_Table_worths, d_Table_shown, d_Table_with_column, d_Table___getitem__, d_Table___contains__, d_Table___iter__, d_Table___len__, d_Table___eq__, d_Table___str__, d_w_reel, d_w_turn, d_w_any]
def ds3 : List DefX := [d_w_names, d_w_levels, d_w_worth, d_w_codes, d_w_column, d_w_rows, d_w_ratio, d_w_made, d_w_table, d_w_text, d_w_shown, d_w_due, d_w_worths, d_w_with, d_w_own, d_w_columns_right, d_w_rows_right, d_w_changed_right, d_w_right, d_w_written]
def ds4 : List DefX := [d_law]
def dp0 : List DefX := ds0 ++ ds1
def dp1 : List DefX := ds2 ++ ds3
def dp2 : List DefX := ds4
abbrev s_InvalidNumber___init__ : Stmt := inClass (top 7) 0
abbrev s_TooMany___init__ : Stmt := inClass (top 9) 0
abbrev s_UnknownName___init__ : Stmt := inClass (top 8) 0
def fs0 : List (PySem.W.Frag → Bool) := [fGlo "is_integer", fGlo "is_within", fGlo "is_run", fGlo "is_name", fGlo "are_names", fGlo "lowest_of", fGlo "told_lowest", fGlo "ratio_from", fGlo "is_ratio", fGlo "require_ratio", fGlo "are_levels", fGlo "are_codes", fGlo "are_amounts", fGlo "is_column", fGlo "worths_of", fGlo "are_columns", fGlo "require_length", fGlo "_law_reel", fGlo "_law_turn", fGlo "_law_any"]
def fs1 : List (PySem.W.Frag → Bool) := [fGlo "_law_names", fGlo "_law_levels", fGlo "_law_worth", fGlo "_law_codes", fGlo "_law_column", fGlo "_law_rows", fGlo "_law_ratio", fGlo "_law_made", fGlo "_law_table", fGlo "_law_text", fGlo "_law_shown", fGlo "_law_due", fGlo "_law_worths", fGlo "_law_with", fGlo "_law_own", fGlo "_law_columns_right", fGlo "_law_rows_right", fGlo "_law_changed_right", fGlo "_law_right", fGlo "_law_written"]
def fs2 : List (PySem.W.Frag → Bool) := [fGlo "law", fGlo "WorthError", fGlo "InvalidRatio", fGlo "InvalidTable", fGlo "InvalidOperation", fGlo "InvalidNumber", fGlo "UnknownName", fGlo "TooMany", fGlo "Lowest", fGlo "Ratio", fGlo "Factor", fGlo "Numbers", fGlo "Table", fFree "TypeError", fFree "ZeroDivisionError", fFree "abs", fFree "all", fFree "any", fFree "bool", fFree "dict"]
def fs3 : List (PySem.W.Frag → Bool) := [fFree "enumerate", fFree "int", fFree "isinstance", fFree "len", fFree "list", fFree "max", fFree "min", fFree "range", fFree "set", fFree "sorted", fFree "str", fFree "tuple", fFree "NotImplemented", fBlt "gcd" "math.gcd", fInt "GREAT" (10 ^ 60), fInt "MOST_NAME" (8), fStr "LETTERS" "abcdefghijklmnopqrstuvwxyz", fStr "DIGITS" "0123456789", fGlo "RESERVED", fTupS "RESERVED" ["else", "fun", "if", "in", "stop", "text", "try", "with"]]
def fs4 : List (PySem.W.Frag → Bool) := [fInt "MAX_DIGITS" (2000), fInt "FIRST_TOO_GREAT" ((10 ^ 50) ^ 40), fInt "MAX_ROWS" (200), fInt "MAX_LEVELS" (12), fStr "FACTOR" "factor", fStr "NUMBER" "number", fInt "MAX_COLUMNS" (12), fSl2 "Lowest" "own_bottom" "own_top", fSl2 "Ratio" "own_bottom" "own_top", fSl2 "Factor" "own_codes" "own_levels", fSlN "Numbers" ["own_ratios"], fSlN "Table" ["own_columns", "own_indices", "own_total"], fKit (fun _ => .type "int") "Lowest" false, fKit (fun _ => .type "str") "Lowest" false, fKit (fun _ => .type "bool") "Lowest" false, fKit (fun _ => .type "NoneType") "Lowest" false, fKit (fun _ => .type "tuple") "Lowest" false, fKit (fun _ => .type "list") "Lowest" false, fKit (fun _ => .type "dict") "Lowest" false, fKit (fun K => .ref (gA "Lowest" K)) "Lowest" true]
def fs5 : List (PySem.W.Frag → Bool) := [fKit (fun K => .ref (gA "Ratio" K)) "Lowest" false, fKit (fun K => .ref (gA "Factor" K)) "Lowest" false, fKit (fun K => .ref (gA "Numbers" K)) "Lowest" false, fKit (fun K => .ref (gA "Table" K)) "Lowest" false, fKit (fun _ => .type "int") "Ratio" false, fKit (fun _ => .type "str") "Ratio" false, fKit (fun _ => .type "bool") "Ratio" false, fKit (fun _ => .type "NoneType") "Ratio" false, fKit (fun _ => .type "tuple") "Ratio" false, fKit (fun _ => .type "list") "Ratio" false, fKit (fun _ => .type "dict") "Ratio" false, fKit (fun K => .ref (gA "Lowest" K)) "Ratio" false, fKit (fun K => .ref (gA "Ratio" K)) "Ratio" true, fKit (fun K => .ref (gA "Factor" K)) "Ratio" false, fKit (fun K => .ref (gA "Numbers" K)) "Ratio" false, fKit (fun K => .ref (gA "Table" K)) "Ratio" false, fKit (fun _ => .type "int") "Factor" false, fKit (fun _ => .type "str") "Factor" false, fKit (fun _ => .type "bool") "Factor" false, fKit (fun _ => .type "NoneType") "Factor" false]
def fs6 : List (PySem.W.Frag → Bool) := [fKit (fun _ => .type "tuple") "Factor" false, fKit (fun _ => .type "list") "Factor" false, fKit (fun _ => .type "dict") "Factor" false, fKit (fun K => .ref (gA "Lowest" K)) "Factor" false, fKit (fun K => .ref (gA "Ratio" K)) "Factor" false, fKit (fun K => .ref (gA "Factor" K)) "Factor" true, fKit (fun K => .ref (gA "Numbers" K)) "Factor" false, fKit (fun K => .ref (gA "Table" K)) "Factor" false, fKit (fun _ => .type "int") "Numbers" false, fKit (fun _ => .type "str") "Numbers" false, fKit (fun _ => .type "bool") "Numbers" false, fKit (fun _ => .type "NoneType") "Numbers" false, fKit (fun _ => .type "tuple") "Numbers" false, fKit (fun _ => .type "list") "Numbers" false, fKit (fun _ => .type "dict") "Numbers" false, fKit (fun K => .ref (gA "Lowest" K)) "Numbers" false, fKit (fun K => .ref (gA "Ratio" K)) "Numbers" false, fKit (fun K => .ref (gA "Factor" K)) "Numbers" false, fKit (fun K => .ref (gA "Numbers" K)) "Numbers" true, fKit (fun K => .ref (gA "Table" K)) "Numbers" false]
def fs7 : List (PySem.W.Frag → Bool) := [fKit (fun _ => .type "int") "Table" false, fKit (fun _ => .type "str") "Table" false, fKit (fun _ => .type "bool") "Table" false, fKit (fun _ => .type "NoneType") "Table" false, fKit (fun _ => .type "tuple") "Table" false, fKit (fun _ => .type "list") "Table" false, fKit (fun _ => .type "dict") "Table" false, fKit (fun K => .ref (gA "Lowest" K)) "Table" false, fKit (fun K => .ref (gA "Ratio" K)) "Table" false, fKit (fun K => .ref (gA "Factor" K)) "Table" false, fKit (fun K => .ref (gA "Numbers" K)) "Table" false, fKit (fun K => .ref (gA "Table" K)) "Table" true, fProp "Ratio" "top", fProp "Ratio" "bottom", fOwn "Ratio" "over", fOwn "Ratio" "is_less", fOwn "Ratio" "__add__", fOwn "Ratio" "__sub__", fOwn "Ratio" "__mul__", fOwn "Ratio" "__neg__"]
def fs8 : List (PySem.W.Frag → Bool) := [fOwn "Ratio" "__abs__", fOwn "Ratio" "__bool__", fOwn "Ratio" "__eq__", fOwn "Ratio" "__str__", fProp "Factor" "levels", fProp "Factor" "codes", fProp "Factor" "kind", fOwn "Factor" "__len__", fOwn "Factor" "__eq__", fProp "Numbers" "ratios", fProp "Numbers" "kind", fOwn "Numbers" "__len__", fOwn "Numbers" "__eq__", fProp "Table" "columns", fProp "Table" "names", fProp "Table" "total", fProp "Table" "kinds", fOwn "Table" "require_names", fOwn "Table" "require_factors", fOwn "Table" "worths"]
def fs9 : List (PySem.W.Frag → Bool) := [fOwn "Table" "rows_at", fOwn "Table" "picked", fOwn "Table" "shown", fOwn "Table" "with_column", fOwn "Table" "bound", fOwn "Table" "ordered", fOwn "Table" "cell_of", fOwn "Table" "all_cells", fOwn "Table" "cell_total", fOwn "Table" "cells", fOwn "Table" "complete", fOwn "Table" "__getitem__", fOwn "Table" "__contains__", fOwn "Table" "__iter__", fOwn "Table" "__len__", fOwn "Table" "__eq__", fOwn "Table" "__str__", fDig, fCM "Factor" "of_names", fFindB "Ratio" "__ne__" "object.__ne__"]
def fs10 : List (PySem.W.Frag → Bool) := [fFindB "Factor" "__ne__" "object.__ne__", fFindB "Numbers" "__ne__" "object.__ne__", fFindB "Table" "__ne__" "object.__ne__", fKitB "Lowest" "bool" false, fKitB "Lowest" "dict" false, fKitB "Lowest" "int" false, fKitB "Lowest" "str" false, fKitB "Lowest" "tuple" false, fKitB "Ratio" "bool" false, fKitB "Ratio" "dict" false, fKitB "Ratio" "int" false, fKitB "Ratio" "str" false, fKitB "Ratio" "tuple" false, fKitB "Factor" "bool" false, fKitB "Factor" "dict" false, fKitB "Factor" "int" false, fKitB "Factor" "str" false, fKitB "Factor" "tuple" false, fKitB "Numbers" "bool" false, fKitB "Numbers" "dict" false]
def fs11 : List (PySem.W.Frag → Bool) := [fKitB "Numbers" "int" false, fKitB "Numbers" "str" false, fKitB "Numbers" "tuple" false, fKitB "Table" "bool" false, fKitB "Table" "dict" false, fKitB "Table" "int" false, fKitB "Table" "str" false, fKitB "Table" "tuple" false, fKwN (mA "Table" "__init__") "total", fFree "super", fSup "InvalidNumber" "given" "InvalidNumber.__init__" "/claim/cut.py" "IndexError" "IndexError.__new__" "IndexError.__init__" (fun _ => []) bmIndex, fXf "InvalidNumber", fLack "InvalidNumber" "given", fSup "TooMany" "limit" "TooMany.__init__" "/claim/cut.py" "OverflowError" "OverflowError.__new__" "OverflowError.__init__" (fun _ => []) bmOver, fXf "TooMany", fLack "TooMany" "limit", fSup "UnknownName" "wanted" "UnknownName.__init__" "/claim/cut.py" "KeyError" "LookupError.__new__" "KeyError.__init__" (fun _ => []) bmKey, fXf "UnknownName", fLack "UnknownName" "wanted", fOwnV "InvalidRatio"]
def fs12 : List (PySem.W.Frag → Bool) := [fOwnV "InvalidTable", fOwnV "InvalidOperation"]
def fp0 : List (PySem.W.Frag → Bool) := fs0 ++ fs1 ++ fs2 ++ fs3 ++ fs4 ++ fs5
def fp1 : List (PySem.W.Frag → Bool) := fs6 ++ fs7 ++ fs8 ++ fs9 ++ fs10 ++ fs11
def fp2 : List (PySem.W.Frag → Bool) := fs12
def fs : List (PySem.W.Frag → Bool) := (((((([] : List (PySem.W.Frag → Bool)) ++ ([] : List (PySem.W.Frag → Bool))) ++ ([] : List (PySem.W.Frag → Bool))) ++ fp0) ++ fp1) ++ fp2)
def loose0 : List Str := ["_wall", "__name__", "WorthError", "InvalidRatio", "InvalidTable", "InvalidOperation", "InvalidNumber", "UnknownName", "TooMany", "GREAT", "MOST_NAME", "LETTERS", "DIGITS", "RESERVED", "is_integer", "is_within", "is_run", "is_name", "are_names", "MAX_DIGITS"]
def loose1 : List Str := ["FIRST_TOO_GREAT", "Lowest", "lowest_of", "Ratio", "told_lowest", "ratio_from", "is_ratio", "require_ratio", "MAX_ROWS", "MAX_LEVELS", "FACTOR", "NUMBER", "are_levels", "are_codes", "are_amounts", "Factor", "Numbers", "is_column", "worths_of", "MAX_COLUMNS"]
def loose2 : List Str := ["are_columns", "require_length", "Table", "_law_reel", "_law_turn", "_law_any", "_law_names", "_law_levels", "_law_worth", "_law_codes", "_law_column", "_law_rows", "_law_ratio", "_law_made", "_law_table", "_law_text", "_law_shown", "_law_due", "_law_worths", "_law_with"]
def loose3 : List Str := ["_law_own", "_law_columns_right", "_law_rows_right", "_law_changed_right", "_law_right", "_law_written"]
def loose : List Str := loose0 ++ loose1 ++ loose2 ++ loose3
abbrev R : PySem.W.OpenRow := PySem.W.OpenLaw.row PySem.Challenge.rw_worthstead_k12_tables_told
abbrev qv : Program := PySem.W.view R.prog [0, 72]
def esD : List EX := [⟨mA "InvalidNumber" "__init__", some ("__init__", "InvalidNumber.__init__", defArgs s_InvalidNumber___init__, .stmts (defBody s_InvalidNumber___init__), defScope s_InvalidNumber___init__, mainGlobals, [("__class__", 0)], builtinsNs)⟩, ⟨mA "TooMany" "__init__", some ("__init__", "TooMany.__init__", defArgs s_TooMany___init__, .stmts (defBody s_TooMany___init__), defScope s_TooMany___init__, mainGlobals, [("__class__", 0)], builtinsNs)⟩, ⟨mA "UnknownName" "__init__", some ("__init__", "UnknownName.__init__", defArgs s_UnknownName___init__, .stmts (defBody s_UnknownName___init__), defScope s_UnknownName___init__, mainGlobals, [("__class__", 0)], builtinsNs)⟩]
def ds : List DefX := (((((dp0 ++ dp1) ++ dp2) ++ ([] : List DefX)) ++ ([] : List DefX)) ++ ([] : List DefX))
def es : List EX := (((((esD ++ ([] : List EX)) ++ ([] : List EX)) ++ ([] : List EX)) ++ ([] : List EX)) ++ ([] : List EX))
abbrev ts : List (Pa × Str) := []
abbrev hk : PySem.W.Hook := hookQ 6 fs ds es ts
def ob (s : PySem.W.SharedT) : AlT := obsQG 6 fs ds es ts (HandSHeadRun.getT s)
theorem ob_eq (s : PySem.W.SharedT) : ob s = hk.obs s.abs := obsQG_eq (HandSHeadRun.getT_eq s)
noncomputable def whole (w : World) := HandSHeadRun.wholeF (fun p => HandSHeadRun.stepQ (HandSHeadRun.denQ HandSHeadRun.tabQ) p w) HandSHeadRun.fenceQ 20000 R.prog
end LW
end
section
namespace LW
open PySem PySem.Spec PyProof.Rows L2 Wo
section
open PySem.W PySem.Calls HandSHeadRun
theorem runL (w : World) : (whole w).map (fun x => looksF R.prog x.1.heap x.2.abs) = some true := @NI.run _ (by exact NI.carry : NI.Carry (by
  kernel_rfl
))
end
end LW
end
section
namespace LW
open PySem PySem.Spec PyProof.Rows L2 Wo
section
open PySem.W PySem.Calls HandSHeadRun
theorem runS (w : World) : (whole w).map (fun x => seenQ qv loose (importedModules R.prog.main.body) (fun s => xlAt qv [] s && recOk R.toRowW.records s) x.2.abs) = some (openGood qv loose) := @NI.run _ (by exact NI.carry : NI.Carry (by
  kernel_rfl
))
end
end LW
end
section
namespace LW
open PySem PySem.Spec PyProof.Rows L2 Wo
theorem runD0 (w : World) : (whole w).map (fun x => obsQG 6 [] dp0 esD ts (HandSHeadRun.getT x.2)) = some (valY dp0 esD, true) := @NI.run _ (by exact NI.carry : NI.Carry (by
  kernel_rfl
))
end LW
end
section
namespace LW
open PySem PySem.Spec PyProof.Rows L2 Wo
theorem runD1 (w : World) : (whole w).map (fun x => obsQG 6 [] dp1 [] ts (HandSHeadRun.getT x.2)) = some (valY dp1 [], true) := @NI.run _ (by exact NI.carry : NI.Carry (by
  kernel_rfl
))
end LW
end
section
namespace LW
open PySem PySem.Spec PyProof.Rows L2 Wo
theorem runD2 (w : World) : (whole w).map (fun x => obsQG 6 [] dp2 [] ts (HandSHeadRun.getT x.2)) = some (valY dp2 [], true) := @NI.run _ (by exact NI.carry : NI.Carry (by
  kernel_rfl
))
end LW
end
section
namespace LW
open PySem PySem.Spec PyProof.Rows L2 Wo
theorem runF0 (w : World) : (whole w).map (fun x => obsQG 6 fp0 [] [] ts (HandSHeadRun.getT x.2)) = some (valY [] [], true) := @NI.run _ (by exact NI.carry : NI.Carry (by
  kernel_rfl
))
end LW
end
section
namespace LW
open PySem PySem.Spec PyProof.Rows L2 Wo
theorem runF1 (w : World) : (whole w).map (fun x => obsQG 6 fp1 [] [] ts (HandSHeadRun.getT x.2)) = some (valY [] [], true) := @NI.run _ (by exact NI.carry : NI.Carry (by
  kernel_rfl
))
end LW
end
section
namespace LW
open PySem PySem.Spec PyProof.Rows L2 Wo
theorem runF2 (w : World) : (whole w).map (fun x => obsQG 6 fp2 [] [] ts (HandSHeadRun.getT x.2)) = some (valY [] [], true) := @NI.run _ (by exact NI.carry : NI.Carry (by
  kernel_rfl
))
end LW
end
section
namespace LW
open PySem PySem.Spec PyProof.Rows L2 Wo
theorem run (w : World) : HandSHeadRun.RunEqI R qv hk ob 20000 loose w := @NI.run _ (by exact NI.carry : NI.Carry (by
  unfold HandSHeadRun.RunEqI
  exact map_three (o := whole w) (runL w) (runS w) (map_join (map_join (map_join (map_join (map_join (runD0 w) (runD1 w)) (runD2 w)) (runF0 w)) (runF1 w)) (runF2 w))
))
structure Tx (P : Program) (K : PySem.W.Frag) (mg : Str → Option Value) : Prop where
  G_is_integer : mg "is_integer" = some (.ref (gA "is_integer" K))
  G_is_within : mg "is_within" = some (.ref (gA "is_within" K))
  G_is_run : mg "is_run" = some (.ref (gA "is_run" K))
  G_is_name : mg "is_name" = some (.ref (gA "is_name" K))
  G_are_names : mg "are_names" = some (.ref (gA "are_names" K))
  G_lowest_of : mg "lowest_of" = some (.ref (gA "lowest_of" K))
  G_told_lowest : mg "told_lowest" = some (.ref (gA "told_lowest" K))
  G_ratio_from : mg "ratio_from" = some (.ref (gA "ratio_from" K))
  G_is_ratio : mg "is_ratio" = some (.ref (gA "is_ratio" K))
  G_require_ratio : mg "require_ratio" = some (.ref (gA "require_ratio" K))
  G_are_levels : mg "are_levels" = some (.ref (gA "are_levels" K))
  G_are_codes : mg "are_codes" = some (.ref (gA "are_codes" K))
  G_are_amounts : mg "are_amounts" = some (.ref (gA "are_amounts" K))
  G_is_column : mg "is_column" = some (.ref (gA "is_column" K))
  G_worths_of : mg "worths_of" = some (.ref (gA "worths_of" K))
  G_are_columns : mg "are_columns" = some (.ref (gA "are_columns" K))
  G_require_length : mg "require_length" = some (.ref (gA "require_length" K))
  G_w_reel : mg "_law_reel" = some (.ref (gA "_law_reel" K))
  G_w_turn : mg "_law_turn" = some (.ref (gA "_law_turn" K))
  G_w_any : mg "_law_any" = some (.ref (gA "_law_any" K))
  G_w_names : mg "_law_names" = some (.ref (gA "_law_names" K))
  G_w_levels : mg "_law_levels" = some (.ref (gA "_law_levels" K))
  G_w_worth : mg "_law_worth" = some (.ref (gA "_law_worth" K))
  G_w_codes : mg "_law_codes" = some (.ref (gA "_law_codes" K))
  G_w_column : mg "_law_column" = some (.ref (gA "_law_column" K))
  G_w_rows : mg "_law_rows" = some (.ref (gA "_law_rows" K))
  G_w_ratio : mg "_law_ratio" = some (.ref (gA "_law_ratio" K))
  G_w_made : mg "_law_made" = some (.ref (gA "_law_made" K))
  G_w_table : mg "_law_table" = some (.ref (gA "_law_table" K))
  G_w_text : mg "_law_text" = some (.ref (gA "_law_text" K))
  G_w_shown : mg "_law_shown" = some (.ref (gA "_law_shown" K))
  G_w_due : mg "_law_due" = some (.ref (gA "_law_due" K))
  G_w_worths : mg "_law_worths" = some (.ref (gA "_law_worths" K))
  G_w_with : mg "_law_with" = some (.ref (gA "_law_with" K))
  G_w_own : mg "_law_own" = some (.ref (gA "_law_own" K))
  G_w_columns_right : mg "_law_columns_right" = some (.ref (gA "_law_columns_right" K))
  G_w_rows_right : mg "_law_rows_right" = some (.ref (gA "_law_rows_right" K))
  G_w_changed_right : mg "_law_changed_right" = some (.ref (gA "_law_changed_right" K))
  G_w_right : mg "_law_right" = some (.ref (gA "_law_right" K))
  G_w_written : mg "_law_written" = some (.ref (gA "_law_written" K))
  G_law : mg "law" = some (.ref (gA "law" K))
  G_WorthError : mg "WorthError" = some (.ref (gA "WorthError" K))
  G_InvalidRatio : mg "InvalidRatio" = some (.ref (gA "InvalidRatio" K))
  G_InvalidTable : mg "InvalidTable" = some (.ref (gA "InvalidTable" K))
  G_InvalidOperation : mg "InvalidOperation" = some (.ref (gA "InvalidOperation" K))
  G_InvalidNumber : mg "InvalidNumber" = some (.ref (gA "InvalidNumber" K))
  G_UnknownName : mg "UnknownName" = some (.ref (gA "UnknownName" K))
  G_TooMany : mg "TooMany" = some (.ref (gA "TooMany" K))
  G_Lowest : mg "Lowest" = some (.ref (gA "Lowest" K))
  G_Ratio : mg "Ratio" = some (.ref (gA "Ratio" K))
  G_Factor : mg "Factor" = some (.ref (gA "Factor" K))
  G_Numbers : mg "Numbers" = some (.ref (gA "Numbers" K))
  G_Table : mg "Table" = some (.ref (gA "Table" K))
  N_TypeError : mg "TypeError" = none
  N_ZeroDivisionError : mg "ZeroDivisionError" = none
  N_abs : mg "abs" = none
  N_all : mg "all" = none
  N_any : mg "any" = none
  N_bool : mg "bool" = none
  N_dict : mg "dict" = none
  N_enumerate : mg "enumerate" = none
  N_int : mg "int" = none
  N_isinstance : mg "isinstance" = none
  N_len : mg "len" = none
  N_list : mg "list" = none
  N_max : mg "max" = none
  N_min : mg "min" = none
  N_range : mg "range" = none
  N_set : mg "set" = none
  N_sorted : mg "sorted" = none
  N_str : mg "str" = none
  N_tuple : mg "tuple" = none
  N_NotImplemented : mg "NotImplemented" = none
  B_gcd : mg "gcd" = some (.builtin "math.gcd")
  I_GREAT : ∃ t, mg "GREAT" = some (.int (10 ^ 60) t)
  I_MOST_NAME : ∃ t, mg "MOST_NAME" = some (.int (8) t)
  S_LETTERS : ∃ t, mg "LETTERS" = some (.str "abcdefghijklmnopqrstuvwxyz" t)
  S_DIGITS : ∃ t, mg "DIGITS" = some (.str "0123456789" t)
  G_RESERVED : mg "RESERVED" = some (.ref (gA "RESERVED" K))
  T_RESERVED : ∀ H, SqT K H (gA "RESERVED" K) ((["else", "fun", "if", "in", "stop", "text", "try", "with"] : List Str).map V.str)
  I_MAX_DIGITS : ∃ t, mg "MAX_DIGITS" = some (.int (2000) t)
  I_FIRST_TOO_GREAT : ∃ t, mg "FIRST_TOO_GREAT" = some (.int ((10 ^ 50) ^ 40) t)
  I_MAX_ROWS : ∃ t, mg "MAX_ROWS" = some (.int (200) t)
  I_MAX_LEVELS : ∃ t, mg "MAX_LEVELS" = some (.int (12) t)
  S_FACTOR : ∃ t, mg "FACTOR" = some (.str "factor" t)
  S_NUMBER : ∃ t, mg "NUMBER" = some (.str "number" t)
  I_MAX_COLUMNS : ∃ t, mg "MAX_COLUMNS" = some (.int (12) t)
  C_Lowest : Sl2 K (gA "Lowest" K) "own_bottom" "own_top" (mA "Lowest" "__init__" K)
  C_Ratio : Sl2 K (gA "Ratio" K) "own_bottom" "own_top" (mA "Ratio" "__init__" K)
  C_Factor : Sl2 K (gA "Factor" K) "own_codes" "own_levels" (mA "Factor" "__init__" K)
  C_Numbers : SlN K (gA "Numbers" K) ["own_ratios"] (mA "Numbers" "__init__" K)
  C_Table : SlN K (gA "Table" K) ["own_columns", "own_indices", "own_total"] (mA "Table" "__init__" K)
  K_int_Lowest : PySem.W.kitOne K (.type "int") (.ref (gA "Lowest" K)) = some false
  K_str_Lowest : PySem.W.kitOne K (.type "str") (.ref (gA "Lowest" K)) = some false
  K_bool_Lowest : PySem.W.kitOne K (.type "bool") (.ref (gA "Lowest" K)) = some false
  K_NoneType_Lowest : PySem.W.kitOne K (.type "NoneType") (.ref (gA "Lowest" K)) = some false
  K_tuple_Lowest : PySem.W.kitOne K (.type "tuple") (.ref (gA "Lowest" K)) = some false
  K_list_Lowest : PySem.W.kitOne K (.type "list") (.ref (gA "Lowest" K)) = some false
  K_dict_Lowest : PySem.W.kitOne K (.type "dict") (.ref (gA "Lowest" K)) = some false
  K_Lowest_Lowest : PySem.W.kitOne K (.ref (gA "Lowest" K)) (.ref (gA "Lowest" K)) = some true
  K_Ratio_Lowest : PySem.W.kitOne K (.ref (gA "Ratio" K)) (.ref (gA "Lowest" K)) = some false
  K_Factor_Lowest : PySem.W.kitOne K (.ref (gA "Factor" K)) (.ref (gA "Lowest" K)) = some false
  K_Numbers_Lowest : PySem.W.kitOne K (.ref (gA "Numbers" K)) (.ref (gA "Lowest" K)) = some false
  K_Table_Lowest : PySem.W.kitOne K (.ref (gA "Table" K)) (.ref (gA "Lowest" K)) = some false
  K_int_Ratio : PySem.W.kitOne K (.type "int") (.ref (gA "Ratio" K)) = some false
  K_str_Ratio : PySem.W.kitOne K (.type "str") (.ref (gA "Ratio" K)) = some false
  K_bool_Ratio : PySem.W.kitOne K (.type "bool") (.ref (gA "Ratio" K)) = some false
  K_NoneType_Ratio : PySem.W.kitOne K (.type "NoneType") (.ref (gA "Ratio" K)) = some false
  K_tuple_Ratio : PySem.W.kitOne K (.type "tuple") (.ref (gA "Ratio" K)) = some false
  K_list_Ratio : PySem.W.kitOne K (.type "list") (.ref (gA "Ratio" K)) = some false
  K_dict_Ratio : PySem.W.kitOne K (.type "dict") (.ref (gA "Ratio" K)) = some false
  K_Lowest_Ratio : PySem.W.kitOne K (.ref (gA "Lowest" K)) (.ref (gA "Ratio" K)) = some false
  K_Ratio_Ratio : PySem.W.kitOne K (.ref (gA "Ratio" K)) (.ref (gA "Ratio" K)) = some true
  K_Factor_Ratio : PySem.W.kitOne K (.ref (gA "Factor" K)) (.ref (gA "Ratio" K)) = some false
  K_Numbers_Ratio : PySem.W.kitOne K (.ref (gA "Numbers" K)) (.ref (gA "Ratio" K)) = some false
  K_Table_Ratio : PySem.W.kitOne K (.ref (gA "Table" K)) (.ref (gA "Ratio" K)) = some false
  K_int_Factor : PySem.W.kitOne K (.type "int") (.ref (gA "Factor" K)) = some false
  K_str_Factor : PySem.W.kitOne K (.type "str") (.ref (gA "Factor" K)) = some false
  K_bool_Factor : PySem.W.kitOne K (.type "bool") (.ref (gA "Factor" K)) = some false
  K_NoneType_Factor : PySem.W.kitOne K (.type "NoneType") (.ref (gA "Factor" K)) = some false
  K_tuple_Factor : PySem.W.kitOne K (.type "tuple") (.ref (gA "Factor" K)) = some false
  K_list_Factor : PySem.W.kitOne K (.type "list") (.ref (gA "Factor" K)) = some false
  K_dict_Factor : PySem.W.kitOne K (.type "dict") (.ref (gA "Factor" K)) = some false
  K_Lowest_Factor : PySem.W.kitOne K (.ref (gA "Lowest" K)) (.ref (gA "Factor" K)) = some false
  K_Ratio_Factor : PySem.W.kitOne K (.ref (gA "Ratio" K)) (.ref (gA "Factor" K)) = some false
  K_Factor_Factor : PySem.W.kitOne K (.ref (gA "Factor" K)) (.ref (gA "Factor" K)) = some true
  K_Numbers_Factor : PySem.W.kitOne K (.ref (gA "Numbers" K)) (.ref (gA "Factor" K)) = some false
  K_Table_Factor : PySem.W.kitOne K (.ref (gA "Table" K)) (.ref (gA "Factor" K)) = some false
  K_int_Numbers : PySem.W.kitOne K (.type "int") (.ref (gA "Numbers" K)) = some false
  K_str_Numbers : PySem.W.kitOne K (.type "str") (.ref (gA "Numbers" K)) = some false
  K_bool_Numbers : PySem.W.kitOne K (.type "bool") (.ref (gA "Numbers" K)) = some false
  K_NoneType_Numbers : PySem.W.kitOne K (.type "NoneType") (.ref (gA "Numbers" K)) = some false
  K_tuple_Numbers : PySem.W.kitOne K (.type "tuple") (.ref (gA "Numbers" K)) = some false
  K_list_Numbers : PySem.W.kitOne K (.type "list") (.ref (gA "Numbers" K)) = some false
  K_dict_Numbers : PySem.W.kitOne K (.type "dict") (.ref (gA "Numbers" K)) = some false
  K_Lowest_Numbers : PySem.W.kitOne K (.ref (gA "Lowest" K)) (.ref (gA "Numbers" K)) = some false
  K_Ratio_Numbers : PySem.W.kitOne K (.ref (gA "Ratio" K)) (.ref (gA "Numbers" K)) = some false
  K_Factor_Numbers : PySem.W.kitOne K (.ref (gA "Factor" K)) (.ref (gA "Numbers" K)) = some false
  K_Numbers_Numbers : PySem.W.kitOne K (.ref (gA "Numbers" K)) (.ref (gA "Numbers" K)) = some true
  K_Table_Numbers : PySem.W.kitOne K (.ref (gA "Table" K)) (.ref (gA "Numbers" K)) = some false
  K_int_Table : PySem.W.kitOne K (.type "int") (.ref (gA "Table" K)) = some false
  K_str_Table : PySem.W.kitOne K (.type "str") (.ref (gA "Table" K)) = some false
  K_bool_Table : PySem.W.kitOne K (.type "bool") (.ref (gA "Table" K)) = some false
  K_NoneType_Table : PySem.W.kitOne K (.type "NoneType") (.ref (gA "Table" K)) = some false
  K_tuple_Table : PySem.W.kitOne K (.type "tuple") (.ref (gA "Table" K)) = some false
  K_list_Table : PySem.W.kitOne K (.type "list") (.ref (gA "Table" K)) = some false
  K_dict_Table : PySem.W.kitOne K (.type "dict") (.ref (gA "Table" K)) = some false
  K_Lowest_Table : PySem.W.kitOne K (.ref (gA "Lowest" K)) (.ref (gA "Table" K)) = some false
  K_Ratio_Table : PySem.W.kitOne K (.ref (gA "Ratio" K)) (.ref (gA "Table" K)) = some false
  K_Factor_Table : PySem.W.kitOne K (.ref (gA "Factor" K)) (.ref (gA "Table" K)) = some false
  K_Numbers_Table : PySem.W.kitOne K (.ref (gA "Numbers" K)) (.ref (gA "Table" K)) = some false
  K_Table_Table : PySem.W.kitOne K (.ref (gA "Table" K)) (.ref (gA "Table" K)) = some true
  P_Ratio_top : PropM K (gA "Ratio" K) "top" (rA "property" "Ratio" "top" K)
  P_Ratio_bottom : PropM K (gA "Ratio" K) "bottom" (rA "property" "Ratio" "bottom" K)
  O_Ratio_over : OwnM K (gA "Ratio" K) "over" (mA "Ratio" "over" K)
  O_Ratio_is_less : OwnM K (gA "Ratio" K) "is_less" (mA "Ratio" "is_less" K)
  O_Ratio___add__ : OwnM K (gA "Ratio" K) "__add__" (mA "Ratio" "__add__" K)
  O_Ratio___sub__ : OwnM K (gA "Ratio" K) "__sub__" (mA "Ratio" "__sub__" K)
  O_Ratio___mul__ : OwnM K (gA "Ratio" K) "__mul__" (mA "Ratio" "__mul__" K)
  O_Ratio___neg__ : OwnM K (gA "Ratio" K) "__neg__" (mA "Ratio" "__neg__" K)
  O_Ratio___abs__ : OwnM K (gA "Ratio" K) "__abs__" (mA "Ratio" "__abs__" K)
  O_Ratio___bool__ : OwnM K (gA "Ratio" K) "__bool__" (mA "Ratio" "__bool__" K)
  O_Ratio___eq__ : OwnM K (gA "Ratio" K) "__eq__" (mA "Ratio" "__eq__" K)
  O_Ratio___str__ : OwnM K (gA "Ratio" K) "__str__" (mA "Ratio" "__str__" K)
  P_Factor_levels : PropM K (gA "Factor" K) "levels" (rA "property" "Factor" "levels" K)
  P_Factor_codes : PropM K (gA "Factor" K) "codes" (rA "property" "Factor" "codes" K)
  P_Factor_kind : PropM K (gA "Factor" K) "kind" (rA "property" "Factor" "kind" K)
  O_Factor___len__ : OwnM K (gA "Factor" K) "__len__" (mA "Factor" "__len__" K)
  O_Factor___eq__ : OwnM K (gA "Factor" K) "__eq__" (mA "Factor" "__eq__" K)
  P_Numbers_ratios : PropM K (gA "Numbers" K) "ratios" (rA "property" "Numbers" "ratios" K)
  P_Numbers_kind : PropM K (gA "Numbers" K) "kind" (rA "property" "Numbers" "kind" K)
  O_Numbers___len__ : OwnM K (gA "Numbers" K) "__len__" (mA "Numbers" "__len__" K)
  O_Numbers___eq__ : OwnM K (gA "Numbers" K) "__eq__" (mA "Numbers" "__eq__" K)
  P_Table_columns : PropM K (gA "Table" K) "columns" (rA "property" "Table" "columns" K)
  P_Table_names : PropM K (gA "Table" K) "names" (rA "property" "Table" "names" K)
  P_Table_total : PropM K (gA "Table" K) "total" (rA "property" "Table" "total" K)
  P_Table_kinds : PropM K (gA "Table" K) "kinds" (rA "property" "Table" "kinds" K)
  O_Table_require_names : OwnM K (gA "Table" K) "require_names" (mA "Table" "require_names" K)
  O_Table_require_factors : OwnM K (gA "Table" K) "require_factors" (mA "Table" "require_factors" K)
  O_Table_worths : OwnM K (gA "Table" K) "worths" (mA "Table" "worths" K)
  O_Table_rows_at : OwnM K (gA "Table" K) "rows_at" (mA "Table" "rows_at" K)
  O_Table_picked : OwnM K (gA "Table" K) "picked" (mA "Table" "picked" K)
  O_Table_shown : OwnM K (gA "Table" K) "shown" (mA "Table" "shown" K)
  O_Table_with_column : OwnM K (gA "Table" K) "with_column" (mA "Table" "with_column" K)
  O_Table_bound : OwnM K (gA "Table" K) "bound" (mA "Table" "bound" K)
  O_Table_ordered : OwnM K (gA "Table" K) "ordered" (mA "Table" "ordered" K)
  O_Table_cell_of : OwnM K (gA "Table" K) "cell_of" (mA "Table" "cell_of" K)
  O_Table_all_cells : OwnM K (gA "Table" K) "all_cells" (mA "Table" "all_cells" K)
  O_Table_cell_total : OwnM K (gA "Table" K) "cell_total" (mA "Table" "cell_total" K)
  O_Table_cells : OwnM K (gA "Table" K) "cells" (mA "Table" "cells" K)
  O_Table_complete : OwnM K (gA "Table" K) "complete" (mA "Table" "complete" K)
  O_Table___getitem__ : OwnM K (gA "Table" K) "__getitem__" (mA "Table" "__getitem__" K)
  O_Table___contains__ : OwnM K (gA "Table" K) "__contains__" (mA "Table" "__contains__" K)
  O_Table___iter__ : OwnM K (gA "Table" K) "__iter__" (mA "Table" "__iter__" K)
  O_Table___len__ : OwnM K (gA "Table" K) "__len__" (mA "Table" "__len__" K)
  O_Table___eq__ : OwnM K (gA "Table" K) "__eq__" (mA "Table" "__eq__" K)
  O_Table___str__ : OwnM K (gA "Table" K) "__str__" (mA "Table" "__str__" K)
  Z_digits : Dig K
  R_Factor_of_names : CMeth K (gA "Factor" K) "of_names" (rA "classmethod" "Factor" "of_names" K)
  Q_Ratio___ne__ : PySem.W.findIn K (.ref (gA "Ratio" K)) "__ne__" = some (some (.builtin "object.__ne__"))
  Q_Factor___ne__ : PySem.W.findIn K (.ref (gA "Factor" K)) "__ne__" = some (some (.builtin "object.__ne__"))
  Q_Numbers___ne__ : PySem.W.findIn K (.ref (gA "Numbers" K)) "__ne__" = some (some (.builtin "object.__ne__"))
  Q_Table___ne__ : PySem.W.findIn K (.ref (gA "Table" K)) "__ne__" = some (some (.builtin "object.__ne__"))
  K_Lowest_bool : PySem.W.kitOne K (.ref (gA "Lowest" K)) (.type "bool") = some false
  K_Lowest_dict : PySem.W.kitOne K (.ref (gA "Lowest" K)) (.type "dict") = some false
  K_Lowest_int : PySem.W.kitOne K (.ref (gA "Lowest" K)) (.type "int") = some false
  K_Lowest_str : PySem.W.kitOne K (.ref (gA "Lowest" K)) (.type "str") = some false
  K_Lowest_tuple : PySem.W.kitOne K (.ref (gA "Lowest" K)) (.type "tuple") = some false
  K_Ratio_bool : PySem.W.kitOne K (.ref (gA "Ratio" K)) (.type "bool") = some false
  K_Ratio_dict : PySem.W.kitOne K (.ref (gA "Ratio" K)) (.type "dict") = some false
  K_Ratio_int : PySem.W.kitOne K (.ref (gA "Ratio" K)) (.type "int") = some false
  K_Ratio_str : PySem.W.kitOne K (.ref (gA "Ratio" K)) (.type "str") = some false
  K_Ratio_tuple : PySem.W.kitOne K (.ref (gA "Ratio" K)) (.type "tuple") = some false
  K_Factor_bool : PySem.W.kitOne K (.ref (gA "Factor" K)) (.type "bool") = some false
  K_Factor_dict : PySem.W.kitOne K (.ref (gA "Factor" K)) (.type "dict") = some false
  K_Factor_int : PySem.W.kitOne K (.ref (gA "Factor" K)) (.type "int") = some false
  K_Factor_str : PySem.W.kitOne K (.ref (gA "Factor" K)) (.type "str") = some false
  K_Factor_tuple : PySem.W.kitOne K (.ref (gA "Factor" K)) (.type "tuple") = some false
  K_Numbers_bool : PySem.W.kitOne K (.ref (gA "Numbers" K)) (.type "bool") = some false
  K_Numbers_dict : PySem.W.kitOne K (.ref (gA "Numbers" K)) (.type "dict") = some false
  K_Numbers_int : PySem.W.kitOne K (.ref (gA "Numbers" K)) (.type "int") = some false
  K_Numbers_str : PySem.W.kitOne K (.ref (gA "Numbers" K)) (.type "str") = some false
  K_Numbers_tuple : PySem.W.kitOne K (.ref (gA "Numbers" K)) (.type "tuple") = some false
  K_Table_bool : PySem.W.kitOne K (.ref (gA "Table" K)) (.type "bool") = some false
  K_Table_dict : PySem.W.kitOne K (.ref (gA "Table" K)) (.type "dict") = some false
  K_Table_int : PySem.W.kitOne K (.ref (gA "Table" K)) (.type "int") = some false
  K_Table_str : PySem.W.kitOne K (.ref (gA "Table" K)) (.type "str") = some false
  K_Table_tuple : PySem.W.kitOne K (.ref (gA "Table" K)) (.type "tuple") = some false
  KW_Table___init__ : KwN K (mA "Table" "__init__" K) "total"
  N_super : mg "super" = none
  X_InvalidNumber : ∀ w : World, SupX P w K mg (gA "InvalidNumber" K) "given"
  F_InvalidNumber : XfC K (gA "InvalidNumber" K)
  L_InvalidNumber : PySem.W.findIn K (.ref (gA "InvalidNumber" K)) "given" = some none
  X_TooMany : ∀ w : World, SupX P w K mg (gA "TooMany" K) "limit"
  F_TooMany : XfC K (gA "TooMany" K)
  L_TooMany : PySem.W.findIn K (.ref (gA "TooMany" K)) "limit" = some none
  X_UnknownName : ∀ w : World, SupX P w K mg (gA "UnknownName" K) "wanted"
  F_UnknownName : XfC K (gA "UnknownName" K)
  L_UnknownName : PySem.W.findIn K (.ref (gA "UnknownName" K)) "wanted" = some none
  E_InvalidRatio : OwnX K (gA "InvalidRatio" K)
  E_InvalidTable : OwnX K (gA "InvalidTable" K)
  E_InvalidOperation : OwnX K (gA "InvalidOperation" K)
  D_is_integer : ∃ fd, FunD K "is_integer" "is_integer" (defArgs s_is_integer) (defBody s_is_integer) (defScope s_is_integer) [] [] (gA "is_integer" K) fd
  D_is_within : ∃ fd, FunD K "is_within" "is_within" (defArgs s_is_within) (defBody s_is_within) (defScope s_is_within) [] [] (gA "is_within" K) fd
  D_is_run : ∃ fd, FunD K "is_run" "is_run" (defArgs s_is_run) (defBody s_is_run) (defScope s_is_run) [] [] (gA "is_run" K) fd
  D_is_name : ∃ fd, FunD K "is_name" "is_name" (defArgs s_is_name) (defBody s_is_name) (defScope s_is_name) [] [] (gA "is_name" K) fd
  D_are_names : ∃ fd, FunD K "are_names" "are_names" (defArgs s_are_names) (defBody s_are_names) (defScope s_are_names) [] [] (gA "are_names" K) fd
  D_Lowest___init__ : ∃ fd, FunD K "__init__" "Lowest.__init__" (defArgs s_Lowest___init__) (defBody s_Lowest___init__) (defScope s_Lowest___init__) [] [] (mA "Lowest" "__init__" K) fd
  D_lowest_of : ∃ fd, FunD K "lowest_of" "lowest_of" (defArgs s_lowest_of) (defBody s_lowest_of) (defScope s_lowest_of) [] [] (gA "lowest_of" K) fd
  D_Ratio___init__ : ∃ fd, FunD K "__init__" "Ratio.__init__" (defArgs s_Ratio___init__) (defBody s_Ratio___init__) (defScope s_Ratio___init__) (d_Ratio___init__.dvs K) [] (mA "Ratio" "__init__" K) fd
  D_Ratio_top : ∃ fd, FunD K "top" "Ratio.top" (defArgs s_Ratio_top) (defBody s_Ratio_top) (defScope s_Ratio_top) [] [] (rA "property" "Ratio" "top" K) fd
  D_Ratio_bottom : ∃ fd, FunD K "bottom" "Ratio.bottom" (defArgs s_Ratio_bottom) (defBody s_Ratio_bottom) (defScope s_Ratio_bottom) [] [] (rA "property" "Ratio" "bottom" K) fd
  D_Ratio_over : ∃ fd, FunD K "over" "Ratio.over" (defArgs s_Ratio_over) (defBody s_Ratio_over) (defScope s_Ratio_over) [] [] (mA "Ratio" "over" K) fd
  D_Ratio___add__ : ∃ fd, FunD K "__add__" "Ratio.__add__" (defArgs s_Ratio___add__) (defBody s_Ratio___add__) (defScope s_Ratio___add__) [] [] (mA "Ratio" "__add__" K) fd
  D_Ratio___sub__ : ∃ fd, FunD K "__sub__" "Ratio.__sub__" (defArgs s_Ratio___sub__) (defBody s_Ratio___sub__) (defScope s_Ratio___sub__) [] [] (mA "Ratio" "__sub__" K) fd
  D_Ratio___mul__ : ∃ fd, FunD K "__mul__" "Ratio.__mul__" (defArgs s_Ratio___mul__) (defBody s_Ratio___mul__) (defScope s_Ratio___mul__) [] [] (mA "Ratio" "__mul__" K) fd
  D_Ratio___neg__ : ∃ fd, FunD K "__neg__" "Ratio.__neg__" (defArgs s_Ratio___neg__) (defBody s_Ratio___neg__) (defScope s_Ratio___neg__) [] [] (mA "Ratio" "__neg__" K) fd
  D_Ratio___abs__ : ∃ fd, FunD K "__abs__" "Ratio.__abs__" (defArgs s_Ratio___abs__) (defBody s_Ratio___abs__) (defScope s_Ratio___abs__) [] [] (mA "Ratio" "__abs__" K) fd
  D_Ratio___bool__ : ∃ fd, FunD K "__bool__" "Ratio.__bool__" (defArgs s_Ratio___bool__) (defBody s_Ratio___bool__) (defScope s_Ratio___bool__) [] [] (mA "Ratio" "__bool__" K) fd
  D_Ratio___eq__ : ∃ fd, FunD K "__eq__" "Ratio.__eq__" (defArgs s_Ratio___eq__) (defBody s_Ratio___eq__) (defScope s_Ratio___eq__) [] [] (mA "Ratio" "__eq__" K) fd
  D_Ratio___str__ : ∃ fd, FunD K "__str__" "Ratio.__str__" (defArgs s_Ratio___str__) (defBody s_Ratio___str__) (defScope s_Ratio___str__) [] [] (mA "Ratio" "__str__" K) fd
  D_told_lowest : ∃ fd, FunD K "told_lowest" "told_lowest" (defArgs s_told_lowest) (defBody s_told_lowest) (defScope s_told_lowest) [] [] (gA "told_lowest" K) fd
  D_ratio_from : ∃ fd, FunD K "ratio_from" "ratio_from" (defArgs s_ratio_from) (defBody s_ratio_from) (defScope s_ratio_from) [] [] (gA "ratio_from" K) fd
  D_is_ratio : ∃ fd, FunD K "is_ratio" "is_ratio" (defArgs s_is_ratio) (defBody s_is_ratio) (defScope s_is_ratio) [] [] (gA "is_ratio" K) fd
  D_require_ratio : ∃ fd, FunD K "require_ratio" "require_ratio" (defArgs s_require_ratio) (defBody s_require_ratio) (defScope s_require_ratio) [] [] (gA "require_ratio" K) fd
  D_are_levels : ∃ fd, FunD K "are_levels" "are_levels" (defArgs s_are_levels) (defBody s_are_levels) (defScope s_are_levels) [] [] (gA "are_levels" K) fd
  D_are_codes : ∃ fd, FunD K "are_codes" "are_codes" (defArgs s_are_codes) (defBody s_are_codes) (defScope s_are_codes) [] [] (gA "are_codes" K) fd
  D_are_amounts : ∃ fd, FunD K "are_amounts" "are_amounts" (defArgs s_are_amounts) (defBody s_are_amounts) (defScope s_are_amounts) [] [] (gA "are_amounts" K) fd
  D_Factor___init__ : ∃ fd, FunD K "__init__" "Factor.__init__" (defArgs s_Factor___init__) (defBody s_Factor___init__) (defScope s_Factor___init__) [] [] (mA "Factor" "__init__" K) fd
  D_Factor_of_names : ∃ fd, FunD K "of_names" "Factor.of_names" (defArgs s_Factor_of_names) (defBody s_Factor_of_names) (defScope s_Factor_of_names) [] [] (rA "classmethod" "Factor" "of_names" K) fd
  D_Factor_levels : ∃ fd, FunD K "levels" "Factor.levels" (defArgs s_Factor_levels) (defBody s_Factor_levels) (defScope s_Factor_levels) [] [] (rA "property" "Factor" "levels" K) fd
  D_Factor_codes : ∃ fd, FunD K "codes" "Factor.codes" (defArgs s_Factor_codes) (defBody s_Factor_codes) (defScope s_Factor_codes) [] [] (rA "property" "Factor" "codes" K) fd
  D_Factor_kind : ∃ fd, FunD K "kind" "Factor.kind" (defArgs s_Factor_kind) (defBody s_Factor_kind) (defScope s_Factor_kind) [] [] (rA "property" "Factor" "kind" K) fd
  D_Factor___len__ : ∃ fd, FunD K "__len__" "Factor.__len__" (defArgs s_Factor___len__) (defBody s_Factor___len__) (defScope s_Factor___len__) [] [] (mA "Factor" "__len__" K) fd
  D_Factor___eq__ : ∃ fd, FunD K "__eq__" "Factor.__eq__" (defArgs s_Factor___eq__) (defBody s_Factor___eq__) (defScope s_Factor___eq__) [] [] (mA "Factor" "__eq__" K) fd
  D_Numbers___init__ : ∃ fd, FunD K "__init__" "Numbers.__init__" (defArgs s_Numbers___init__) (defBody s_Numbers___init__) (defScope s_Numbers___init__) [] [] (mA "Numbers" "__init__" K) fd
  D_Numbers_ratios : ∃ fd, FunD K "ratios" "Numbers.ratios" (defArgs s_Numbers_ratios) (defBody s_Numbers_ratios) (defScope s_Numbers_ratios) [] [] (rA "property" "Numbers" "ratios" K) fd
  D_Numbers_kind : ∃ fd, FunD K "kind" "Numbers.kind" (defArgs s_Numbers_kind) (defBody s_Numbers_kind) (defScope s_Numbers_kind) [] [] (rA "property" "Numbers" "kind" K) fd
  D_Numbers___len__ : ∃ fd, FunD K "__len__" "Numbers.__len__" (defArgs s_Numbers___len__) (defBody s_Numbers___len__) (defScope s_Numbers___len__) [] [] (mA "Numbers" "__len__" K) fd
  D_Numbers___eq__ : ∃ fd, FunD K "__eq__" "Numbers.__eq__" (defArgs s_Numbers___eq__) (defBody s_Numbers___eq__) (defScope s_Numbers___eq__) [] [] (mA "Numbers" "__eq__" K) fd
  D_is_column : ∃ fd, FunD K "is_column" "is_column" (defArgs s_is_column) (defBody s_is_column) (defScope s_is_column) [] [] (gA "is_column" K) fd
  D_worths_of : ∃ fd, FunD K "worths_of" "worths_of" (defArgs s_worths_of) (defBody s_worths_of) (defScope s_worths_of) [] [] (gA "worths_of" K) fd
  D_are_columns : ∃ fd, FunD K "are_columns" "are_columns" (defArgs s_are_columns) (defBody s_are_columns) (defScope s_are_columns) [] [] (gA "are_columns" K) fd
  D_require_length : ∃ fd, FunD K "require_length" "require_length" (defArgs s_require_length) (defBody s_require_length) (defScope s_require_length) [] [] (gA "require_length" K) fd
  D_Table___init__ : ∃ fd, FunD K "__init__" "Table.__init__" (defArgs s_Table___init__) (defBody s_Table___init__) (defScope s_Table___init__) [] [] (mA "Table" "__init__" K) fd
  D_Table_columns : ∃ fd, FunD K "columns" "Table.columns" (defArgs s_Table_columns) (defBody s_Table_columns) (defScope s_Table_columns) [] [] (rA "property" "Table" "columns" K) fd
  D_Table_names : ∃ fd, FunD K "names" "Table.names" (defArgs s_Table_names) (defBody s_Table_names) (defScope s_Table_names) [] [] (rA "property" "Table" "names" K) fd
  D_Table_total : ∃ fd, FunD K "total" "Table.total" (defArgs s_Table_total) (defBody s_Table_total) (defScope s_Table_total) [] [] (rA "property" "Table" "total" K) fd
  D_Table_kinds : ∃ fd, FunD K "kinds" "Table.kinds" (defArgs s_Table_kinds) (defBody s_Table_kinds) (defScope s_Table_kinds) [] [] (rA "property" "Table" "kinds" K) fd
  D_Table_require_names : ∃ fd, FunD K "require_names" "Table.require_names" (defArgs s_Table_require_names) (defBody s_Table_require_names) (defScope s_Table_require_names) [] [] (mA "Table" "require_names" K) fd
  D_Table_worths : ∃ fd, FunD K "worths" "Table.worths" (defArgs s_Table_worths) (defBody s_Table_worths) (defScope s_Table_worths) [] [] (mA "Table" "worths" K) fd
  D_Table_shown : ∃ fd, FunD K "shown" "Table.shown" (defArgs s_Table_shown) (defBody s_Table_shown) (defScope s_Table_shown) [] [] (mA "Table" "shown" K) fd
  D_Table_with_column : ∃ fd, FunD K "with_column" "Table.with_column" (defArgs s_Table_with_column) (defBody s_Table_with_column) (defScope s_Table_with_column) [] [] (mA "Table" "with_column" K) fd
  D_Table___getitem__ : ∃ fd, FunD K "__getitem__" "Table.__getitem__" (defArgs s_Table___getitem__) (defBody s_Table___getitem__) (defScope s_Table___getitem__) [] [] (mA "Table" "__getitem__" K) fd
  D_Table___contains__ : ∃ fd, FunD K "__contains__" "Table.__contains__" (defArgs s_Table___contains__) (defBody s_Table___contains__) (defScope s_Table___contains__) [] [] (mA "Table" "__contains__" K) fd
  D_Table___iter__ : ∃ fd, FunD K "__iter__" "Table.__iter__" (defArgs s_Table___iter__) (defBody s_Table___iter__) (defScope s_Table___iter__) [] [] (mA "Table" "__iter__" K) fd
  D_Table___len__ : ∃ fd, FunD K "__len__" "Table.__len__" (defArgs s_Table___len__) (defBody s_Table___len__) (defScope s_Table___len__) [] [] (mA "Table" "__len__" K) fd
  D_Table___eq__ : ∃ fd, FunD K "__eq__" "Table.__eq__" (defArgs s_Table___eq__) (defBody s_Table___eq__) (defScope s_Table___eq__) [] [] (mA "Table" "__eq__" K) fd
  D_Table___str__ : ∃ fd, FunD K "__str__" "Table.__str__" (defArgs s_Table___str__) (defBody s_Table___str__) (defScope s_Table___str__) [] [] (mA "Table" "__str__" K) fd
  D_w_reel : ∃ fd, FunD K "_law_reel" "_law_reel" (defArgs s_w_reel) (defBody s_w_reel) (defScope s_w_reel) [] [] (gA "_law_reel" K) fd
  D_w_turn : ∃ fd, FunD K "_law_turn" "_law_turn" (defArgs s_w_turn) (defBody s_w_turn) (defScope s_w_turn) [] [] (gA "_law_turn" K) fd
  D_w_any : ∃ fd, FunD K "_law_any" "_law_any" (defArgs s_w_any) (defBody s_w_any) (defScope s_w_any) [] [] (gA "_law_any" K) fd
  D_w_names : ∃ fd, FunD K "_law_names" "_law_names" (defArgs s_w_names) (defBody s_w_names) (defScope s_w_names) [] [] (gA "_law_names" K) fd
  D_w_levels : ∃ fd, FunD K "_law_levels" "_law_levels" (defArgs s_w_levels) (defBody s_w_levels) (defScope s_w_levels) [] [] (gA "_law_levels" K) fd
  D_w_worth : ∃ fd, FunD K "_law_worth" "_law_worth" (defArgs s_w_worth) (defBody s_w_worth) (defScope s_w_worth) [] [] (gA "_law_worth" K) fd
  D_w_codes : ∃ fd, FunD K "_law_codes" "_law_codes" (defArgs s_w_codes) (defBody s_w_codes) (defScope s_w_codes) [] [] (gA "_law_codes" K) fd
  D_w_column : ∃ fd, FunD K "_law_column" "_law_column" (defArgs s_w_column) (defBody s_w_column) (defScope s_w_column) [] [] (gA "_law_column" K) fd
  D_w_rows : ∃ fd, FunD K "_law_rows" "_law_rows" (defArgs s_w_rows) (defBody s_w_rows) (defScope s_w_rows) [] [] (gA "_law_rows" K) fd
  D_w_ratio : ∃ fd, FunD K "_law_ratio" "_law_ratio" (defArgs s_w_ratio) (defBody s_w_ratio) (defScope s_w_ratio) [] [] (gA "_law_ratio" K) fd
  D_w_made : ∃ fd, FunD K "_law_made" "_law_made" (defArgs s_w_made) (defBody s_w_made) (defScope s_w_made) [] [] (gA "_law_made" K) fd
  D_w_table : ∃ fd, FunD K "_law_table" "_law_table" (defArgs s_w_table) (defBody s_w_table) (defScope s_w_table) [] [] (gA "_law_table" K) fd
  D_w_text : ∃ fd, FunD K "_law_text" "_law_text" (defArgs s_w_text) (defBody s_w_text) (defScope s_w_text) [] [] (gA "_law_text" K) fd
  D_w_shown : ∃ fd, FunD K "_law_shown" "_law_shown" (defArgs s_w_shown) (defBody s_w_shown) (defScope s_w_shown) [] [] (gA "_law_shown" K) fd
  D_w_due : ∃ fd, FunD K "_law_due" "_law_due" (defArgs s_w_due) (defBody s_w_due) (defScope s_w_due) [] [] (gA "_law_due" K) fd
  D_w_worths : ∃ fd, FunD K "_law_worths" "_law_worths" (defArgs s_w_worths) (defBody s_w_worths) (defScope s_w_worths) [] [] (gA "_law_worths" K) fd
  D_w_with : ∃ fd, FunD K "_law_with" "_law_with" (defArgs s_w_with) (defBody s_w_with) (defScope s_w_with) [] [] (gA "_law_with" K) fd
  D_w_own : ∃ fd, FunD K "_law_own" "_law_own" (defArgs s_w_own) (defBody s_w_own) (defScope s_w_own) [] [] (gA "_law_own" K) fd
  D_w_columns_right : ∃ fd, FunD K "_law_columns_right" "_law_columns_right" (defArgs s_w_columns_right) (defBody s_w_columns_right) (defScope s_w_columns_right) [] [] (gA "_law_columns_right" K) fd
  D_w_rows_right : ∃ fd, FunD K "_law_rows_right" "_law_rows_right" (defArgs s_w_rows_right) (defBody s_w_rows_right) (defScope s_w_rows_right) [] [] (gA "_law_rows_right" K) fd
  D_w_changed_right : ∃ fd, FunD K "_law_changed_right" "_law_changed_right" (defArgs s_w_changed_right) (defBody s_w_changed_right) (defScope s_w_changed_right) [] [] (gA "_law_changed_right" K) fd
  D_w_right : ∃ fd, FunD K "_law_right" "_law_right" (defArgs s_w_right) (defBody s_w_right) (defScope s_w_right) [] [] (gA "_law_right" K) fd
  D_w_written : ∃ fd, FunD K "_law_written" "_law_written" (defArgs s_w_written) (defBody s_w_written) (defScope s_w_written) [] [] (gA "_law_written" K) fd
  D_law : ∃ fd, FunD K "law" "law" (defArgs s_law) (defBody s_law) (defScope s_law) [] [] (gA "law" K) fd
theorem tx_of {P : Program} {K : PySem.W.Frag} {h : Heap} {mg : Str → Option Value} (hfile : ((P.main.file : Str) == ("/claim/cut.py" : Str)) = true) (htop : (P.main.scope.names.lookup ("super" : Str)).isSome = false) (X : K.In h) (G : h.Ns mainGlobals mg) (cy : SaysY fs ds es K) : Tx P K mg := @NI.run _ (by exact NI.carry : NI.Carry (by
  have c := cy.x
  exact {
  G_is_integer := fGlo_ok X G (c.fact 0)
  G_is_within := fGlo_ok X G (c.fact 1)
  G_is_run := fGlo_ok X G (c.fact 2)
  G_is_name := fGlo_ok X G (c.fact 3)
  G_are_names := fGlo_ok X G (c.fact 4)
  G_lowest_of := fGlo_ok X G (c.fact 5)
  G_told_lowest := fGlo_ok X G (c.fact 6)
  G_ratio_from := fGlo_ok X G (c.fact 7)
  G_is_ratio := fGlo_ok X G (c.fact 8)
  G_require_ratio := fGlo_ok X G (c.fact 9)
  G_are_levels := fGlo_ok X G (c.fact 10)
  G_are_codes := fGlo_ok X G (c.fact 11)
  G_are_amounts := fGlo_ok X G (c.fact 12)
  G_is_column := fGlo_ok X G (c.fact 13)
  G_worths_of := fGlo_ok X G (c.fact 14)
  G_are_columns := fGlo_ok X G (c.fact 15)
  G_require_length := fGlo_ok X G (c.fact 16)
  G_w_reel := fGlo_ok X G (c.fact 17)
  G_w_turn := fGlo_ok X G (c.fact 18)
  G_w_any := fGlo_ok X G (c.fact 19)
  G_w_names := fGlo_ok X G (c.fact 20)
  G_w_levels := fGlo_ok X G (c.fact 21)
  G_w_worth := fGlo_ok X G (c.fact 22)
  G_w_codes := fGlo_ok X G (c.fact 23)
  G_w_column := fGlo_ok X G (c.fact 24)
  G_w_rows := fGlo_ok X G (c.fact 25)
  G_w_ratio := fGlo_ok X G (c.fact 26)
  G_w_made := fGlo_ok X G (c.fact 27)
  G_w_table := fGlo_ok X G (c.fact 28)
  G_w_text := fGlo_ok X G (c.fact 29)
  G_w_shown := fGlo_ok X G (c.fact 30)
  G_w_due := fGlo_ok X G (c.fact 31)
  G_w_worths := fGlo_ok X G (c.fact 32)
  G_w_with := fGlo_ok X G (c.fact 33)
  G_w_own := fGlo_ok X G (c.fact 34)
  G_w_columns_right := fGlo_ok X G (c.fact 35)
  G_w_rows_right := fGlo_ok X G (c.fact 36)
  G_w_changed_right := fGlo_ok X G (c.fact 37)
  G_w_right := fGlo_ok X G (c.fact 38)
  G_w_written := fGlo_ok X G (c.fact 39)
  G_law := fGlo_ok X G (c.fact 40)
  G_WorthError := fGlo_ok X G (c.fact 41)
  G_InvalidRatio := fGlo_ok X G (c.fact 42)
  G_InvalidTable := fGlo_ok X G (c.fact 43)
  G_InvalidOperation := fGlo_ok X G (c.fact 44)
  G_InvalidNumber := fGlo_ok X G (c.fact 45)
  G_UnknownName := fGlo_ok X G (c.fact 46)
  G_TooMany := fGlo_ok X G (c.fact 47)
  G_Lowest := fGlo_ok X G (c.fact 48)
  G_Ratio := fGlo_ok X G (c.fact 49)
  G_Factor := fGlo_ok X G (c.fact 50)
  G_Numbers := fGlo_ok X G (c.fact 51)
  G_Table := fGlo_ok X G (c.fact 52)
  N_TypeError := fFree_ok X G (c.fact 53)
  N_ZeroDivisionError := fFree_ok X G (c.fact 54)
  N_abs := fFree_ok X G (c.fact 55)
  N_all := fFree_ok X G (c.fact 56)
  N_any := fFree_ok X G (c.fact 57)
  N_bool := fFree_ok X G (c.fact 58)
  N_dict := fFree_ok X G (c.fact 59)
  N_enumerate := fFree_ok X G (c.fact 60)
  N_int := fFree_ok X G (c.fact 61)
  N_isinstance := fFree_ok X G (c.fact 62)
  N_len := fFree_ok X G (c.fact 63)
  N_list := fFree_ok X G (c.fact 64)
  N_max := fFree_ok X G (c.fact 65)
  N_min := fFree_ok X G (c.fact 66)
  N_range := fFree_ok X G (c.fact 67)
  N_set := fFree_ok X G (c.fact 68)
  N_sorted := fFree_ok X G (c.fact 69)
  N_str := fFree_ok X G (c.fact 70)
  N_tuple := fFree_ok X G (c.fact 71)
  N_NotImplemented := fFree_ok X G (c.fact 72)
  B_gcd := fBlt_ok X G (c.fact 73)
  I_GREAT := fInt_ok X G (c.fact 74)
  I_MOST_NAME := fInt_ok X G (c.fact 75)
  S_LETTERS := fStr_ok X G (c.fact 76)
  S_DIGITS := fStr_ok X G (c.fact 77)
  G_RESERVED := fGlo_ok X G (c.fact 78)
  T_RESERVED := fTupS_ok (c.fact 79)
  I_MAX_DIGITS := fInt_ok X G (c.fact 80)
  I_FIRST_TOO_GREAT := fInt_ok X G (c.fact 81)
  I_MAX_ROWS := fInt_ok X G (c.fact 82)
  I_MAX_LEVELS := fInt_ok X G (c.fact 83)
  S_FACTOR := fStr_ok X G (c.fact 84)
  S_NUMBER := fStr_ok X G (c.fact 85)
  I_MAX_COLUMNS := fInt_ok X G (c.fact 86)
  C_Lowest := fSl2_ok (c.fact 87)
  C_Ratio := fSl2_ok (c.fact 88)
  C_Factor := fSl2_ok (c.fact 89)
  C_Numbers := fSlN_ok (c.fact 90)
  C_Table := fSlN_ok (c.fact 91)
  K_int_Lowest := fKit_ok (t := fun _ => .type "int") (c.fact 92)
  K_str_Lowest := fKit_ok (t := fun _ => .type "str") (c.fact 93)
  K_bool_Lowest := fKit_ok (t := fun _ => .type "bool") (c.fact 94)
  K_NoneType_Lowest := fKit_ok (t := fun _ => .type "NoneType") (c.fact 95)
  K_tuple_Lowest := fKit_ok (t := fun _ => .type "tuple") (c.fact 96)
  K_list_Lowest := fKit_ok (t := fun _ => .type "list") (c.fact 97)
  K_dict_Lowest := fKit_ok (t := fun _ => .type "dict") (c.fact 98)
  K_Lowest_Lowest := fKit_ok (t := fun K => .ref (gA "Lowest" K)) (c.fact 99)
  K_Ratio_Lowest := fKit_ok (t := fun K => .ref (gA "Ratio" K)) (c.fact 100)
  K_Factor_Lowest := fKit_ok (t := fun K => .ref (gA "Factor" K)) (c.fact 101)
  K_Numbers_Lowest := fKit_ok (t := fun K => .ref (gA "Numbers" K)) (c.fact 102)
  K_Table_Lowest := fKit_ok (t := fun K => .ref (gA "Table" K)) (c.fact 103)
  K_int_Ratio := fKit_ok (t := fun _ => .type "int") (c.fact 104)
  K_str_Ratio := fKit_ok (t := fun _ => .type "str") (c.fact 105)
  K_bool_Ratio := fKit_ok (t := fun _ => .type "bool") (c.fact 106)
  K_NoneType_Ratio := fKit_ok (t := fun _ => .type "NoneType") (c.fact 107)
  K_tuple_Ratio := fKit_ok (t := fun _ => .type "tuple") (c.fact 108)
  K_list_Ratio := fKit_ok (t := fun _ => .type "list") (c.fact 109)
  K_dict_Ratio := fKit_ok (t := fun _ => .type "dict") (c.fact 110)
  K_Lowest_Ratio := fKit_ok (t := fun K => .ref (gA "Lowest" K)) (c.fact 111)
  K_Ratio_Ratio := fKit_ok (t := fun K => .ref (gA "Ratio" K)) (c.fact 112)
  K_Factor_Ratio := fKit_ok (t := fun K => .ref (gA "Factor" K)) (c.fact 113)
  K_Numbers_Ratio := fKit_ok (t := fun K => .ref (gA "Numbers" K)) (c.fact 114)
  K_Table_Ratio := fKit_ok (t := fun K => .ref (gA "Table" K)) (c.fact 115)
  K_int_Factor := fKit_ok (t := fun _ => .type "int") (c.fact 116)
  K_str_Factor := fKit_ok (t := fun _ => .type "str") (c.fact 117)
  K_bool_Factor := fKit_ok (t := fun _ => .type "bool") (c.fact 118)
  K_NoneType_Factor := fKit_ok (t := fun _ => .type "NoneType") (c.fact 119)
  K_tuple_Factor := fKit_ok (t := fun _ => .type "tuple") (c.fact 120)
  K_list_Factor := fKit_ok (t := fun _ => .type "list") (c.fact 121)
  K_dict_Factor := fKit_ok (t := fun _ => .type "dict") (c.fact 122)
  K_Lowest_Factor := fKit_ok (t := fun K => .ref (gA "Lowest" K)) (c.fact 123)
  K_Ratio_Factor := fKit_ok (t := fun K => .ref (gA "Ratio" K)) (c.fact 124)
  K_Factor_Factor := fKit_ok (t := fun K => .ref (gA "Factor" K)) (c.fact 125)
  K_Numbers_Factor := fKit_ok (t := fun K => .ref (gA "Numbers" K)) (c.fact 126)
  K_Table_Factor := fKit_ok (t := fun K => .ref (gA "Table" K)) (c.fact 127)
  K_int_Numbers := fKit_ok (t := fun _ => .type "int") (c.fact 128)
  K_str_Numbers := fKit_ok (t := fun _ => .type "str") (c.fact 129)
  K_bool_Numbers := fKit_ok (t := fun _ => .type "bool") (c.fact 130)
  K_NoneType_Numbers := fKit_ok (t := fun _ => .type "NoneType") (c.fact 131)
  K_tuple_Numbers := fKit_ok (t := fun _ => .type "tuple") (c.fact 132)
  K_list_Numbers := fKit_ok (t := fun _ => .type "list") (c.fact 133)
  K_dict_Numbers := fKit_ok (t := fun _ => .type "dict") (c.fact 134)
  K_Lowest_Numbers := fKit_ok (t := fun K => .ref (gA "Lowest" K)) (c.fact 135)
  K_Ratio_Numbers := fKit_ok (t := fun K => .ref (gA "Ratio" K)) (c.fact 136)
  K_Factor_Numbers := fKit_ok (t := fun K => .ref (gA "Factor" K)) (c.fact 137)
  K_Numbers_Numbers := fKit_ok (t := fun K => .ref (gA "Numbers" K)) (c.fact 138)
  K_Table_Numbers := fKit_ok (t := fun K => .ref (gA "Table" K)) (c.fact 139)
  K_int_Table := fKit_ok (t := fun _ => .type "int") (c.fact 140)
  K_str_Table := fKit_ok (t := fun _ => .type "str") (c.fact 141)
  K_bool_Table := fKit_ok (t := fun _ => .type "bool") (c.fact 142)
  K_NoneType_Table := fKit_ok (t := fun _ => .type "NoneType") (c.fact 143)
  K_tuple_Table := fKit_ok (t := fun _ => .type "tuple") (c.fact 144)
  K_list_Table := fKit_ok (t := fun _ => .type "list") (c.fact 145)
  K_dict_Table := fKit_ok (t := fun _ => .type "dict") (c.fact 146)
  K_Lowest_Table := fKit_ok (t := fun K => .ref (gA "Lowest" K)) (c.fact 147)
  K_Ratio_Table := fKit_ok (t := fun K => .ref (gA "Ratio" K)) (c.fact 148)
  K_Factor_Table := fKit_ok (t := fun K => .ref (gA "Factor" K)) (c.fact 149)
  K_Numbers_Table := fKit_ok (t := fun K => .ref (gA "Numbers" K)) (c.fact 150)
  K_Table_Table := fKit_ok (t := fun K => .ref (gA "Table" K)) (c.fact 151)
  P_Ratio_top := fProp_ok (c.fact 152)
  P_Ratio_bottom := fProp_ok (c.fact 153)
  O_Ratio_over := fOwn_ok (c.fact 154)
  O_Ratio_is_less := fOwn_ok (c.fact 155)
  O_Ratio___add__ := fOwn_ok (c.fact 156)
  O_Ratio___sub__ := fOwn_ok (c.fact 157)
  O_Ratio___mul__ := fOwn_ok (c.fact 158)
  O_Ratio___neg__ := fOwn_ok (c.fact 159)
  O_Ratio___abs__ := fOwn_ok (c.fact 160)
  O_Ratio___bool__ := fOwn_ok (c.fact 161)
  O_Ratio___eq__ := fOwn_ok (c.fact 162)
  O_Ratio___str__ := fOwn_ok (c.fact 163)
  P_Factor_levels := fProp_ok (c.fact 164)
  P_Factor_codes := fProp_ok (c.fact 165)
  P_Factor_kind := fProp_ok (c.fact 166)
  O_Factor___len__ := fOwn_ok (c.fact 167)
  O_Factor___eq__ := fOwn_ok (c.fact 168)
  P_Numbers_ratios := fProp_ok (c.fact 169)
  P_Numbers_kind := fProp_ok (c.fact 170)
  O_Numbers___len__ := fOwn_ok (c.fact 171)
  O_Numbers___eq__ := fOwn_ok (c.fact 172)
  P_Table_columns := fProp_ok (c.fact 173)
  P_Table_names := fProp_ok (c.fact 174)
  P_Table_total := fProp_ok (c.fact 175)
  P_Table_kinds := fProp_ok (c.fact 176)
  O_Table_require_names := fOwn_ok (c.fact 177)
  O_Table_require_factors := fOwn_ok (c.fact 178)
  O_Table_worths := fOwn_ok (c.fact 179)
  O_Table_rows_at := fOwn_ok (c.fact 180)
  O_Table_picked := fOwn_ok (c.fact 181)
  O_Table_shown := fOwn_ok (c.fact 182)
  O_Table_with_column := fOwn_ok (c.fact 183)
  O_Table_bound := fOwn_ok (c.fact 184)
  O_Table_ordered := fOwn_ok (c.fact 185)
  O_Table_cell_of := fOwn_ok (c.fact 186)
  O_Table_all_cells := fOwn_ok (c.fact 187)
  O_Table_cell_total := fOwn_ok (c.fact 188)
  O_Table_cells := fOwn_ok (c.fact 189)
  O_Table_complete := fOwn_ok (c.fact 190)
  O_Table___getitem__ := fOwn_ok (c.fact 191)
  O_Table___contains__ := fOwn_ok (c.fact 192)
  O_Table___iter__ := fOwn_ok (c.fact 193)
  O_Table___len__ := fOwn_ok (c.fact 194)
  O_Table___eq__ := fOwn_ok (c.fact 195)
  O_Table___str__ := fOwn_ok (c.fact 196)
  Z_digits := fDig_ok (c.fact 197)
  R_Factor_of_names := fCM_ok (c.fact 198)
  Q_Ratio___ne__ := fFindB_ok (c.fact 199)
  Q_Factor___ne__ := fFindB_ok (c.fact 200)
  Q_Numbers___ne__ := fFindB_ok (c.fact 201)
  Q_Table___ne__ := fFindB_ok (c.fact 202)
  K_Lowest_bool := fKitB_ok (c.fact 203)
  K_Lowest_dict := fKitB_ok (c.fact 204)
  K_Lowest_int := fKitB_ok (c.fact 205)
  K_Lowest_str := fKitB_ok (c.fact 206)
  K_Lowest_tuple := fKitB_ok (c.fact 207)
  K_Ratio_bool := fKitB_ok (c.fact 208)
  K_Ratio_dict := fKitB_ok (c.fact 209)
  K_Ratio_int := fKitB_ok (c.fact 210)
  K_Ratio_str := fKitB_ok (c.fact 211)
  K_Ratio_tuple := fKitB_ok (c.fact 212)
  K_Factor_bool := fKitB_ok (c.fact 213)
  K_Factor_dict := fKitB_ok (c.fact 214)
  K_Factor_int := fKitB_ok (c.fact 215)
  K_Factor_str := fKitB_ok (c.fact 216)
  K_Factor_tuple := fKitB_ok (c.fact 217)
  K_Numbers_bool := fKitB_ok (c.fact 218)
  K_Numbers_dict := fKitB_ok (c.fact 219)
  K_Numbers_int := fKitB_ok (c.fact 220)
  K_Numbers_str := fKitB_ok (c.fact 221)
  K_Numbers_tuple := fKitB_ok (c.fact 222)
  K_Table_bool := fKitB_ok (c.fact 223)
  K_Table_dict := fKitB_ok (c.fact 224)
  K_Table_int := fKitB_ok (c.fact 225)
  K_Table_str := fKitB_ok (c.fact 226)
  K_Table_tuple := fKitB_ok (c.fact 227)
  KW_Table___init__ := fKwN_ok (c.fact 228)
  N_super := fFree_ok X G (c.fact 229)
  X_InvalidNumber := fun w => fSup_ok (pre := (fun _ => [])) (x := "InvalidNumber") (f := "given") (a := "given") (sl := "self") (qual := "InvalidNumber.__init__") (body := defBody s_InvalidNumber___init__) (scope := defScope s_InvalidNumber___init__) (params := defArgs s_InvalidNumber___init__) bas_IndexError (c.fact 230) (cy.ex 0) hfile htop (fFree_ok X G (c.fact 229)) (fFree_ok X G (c.fact 70)) (by rfl) (by rfl) (by rfl)
    (fun _ _ _ _ _ _ _ _ _ _ => by rfl) (by decide) (by decide) (by decide) (by rfl) (by rfl) (by rfl) (by rfl) (by rfl) (by rfl) (by decide) (by rfl) (by rfl) (fun _ _ _ _ => ⟨_, by rfl⟩) (fun _ _ _ _ => by rfl) (fun _ _ _ _ => by rfl) (fun _ _ _ _ => by rfl) (fun _ _ _ _ => by rfl)
  F_InvalidNumber := fXf_ok (c.fact 231)
  L_InvalidNumber := fLack_ok (c.fact 232)
  X_TooMany := fun w => fSup_ok (pre := (fun _ => [])) (x := "TooMany") (f := "limit") (a := "limit") (sl := "self") (qual := "TooMany.__init__") (body := defBody s_TooMany___init__) (scope := defScope s_TooMany___init__) (params := defArgs s_TooMany___init__) bas_OverflowError (c.fact 233) (cy.ex 1) hfile htop (fFree_ok X G (c.fact 229)) (fFree_ok X G (c.fact 70)) (by rfl) (by rfl) (by rfl)
    (fun _ _ _ _ _ _ _ _ _ _ => by rfl) (by decide) (by decide) (by decide) (by rfl) (by rfl) (by rfl) (by rfl) (by rfl) (by rfl) (by decide) (by rfl) (by rfl) (fun _ _ _ _ => ⟨_, by rfl⟩) (fun _ _ _ _ => by rfl) (fun _ _ _ _ => by rfl) (fun _ _ _ _ => by rfl) (fun _ _ _ _ => by rfl)
  F_TooMany := fXf_ok (c.fact 234)
  L_TooMany := fLack_ok (c.fact 235)
  X_UnknownName := fun w => fSup_ok (pre := (fun _ => [])) (x := "UnknownName") (f := "wanted") (a := "wanted") (sl := "self") (qual := "UnknownName.__init__") (body := defBody s_UnknownName___init__) (scope := defScope s_UnknownName___init__) (params := defArgs s_UnknownName___init__) bas_KeyError (c.fact 236) (cy.ex 2) hfile htop (fFree_ok X G (c.fact 229)) (fFree_ok X G (c.fact 70)) (by rfl) (by rfl) (by rfl)
    (fun _ _ _ _ _ _ _ _ _ _ => by rfl) (by decide) (by decide) (by decide) (by rfl) (by rfl) (by rfl) (by rfl) (by rfl) (by rfl) (by decide) (by rfl) (by rfl) (fun _ _ _ _ => ⟨_, by rfl⟩) (fun _ _ _ _ => by rfl) (fun _ _ _ _ => by rfl) (fun _ _ _ _ => by rfl) (fun _ _ _ _ => by rfl)
  F_UnknownName := fXf_ok (c.fact 237)
  L_UnknownName := fLack_ok (c.fact 238)
  E_InvalidRatio := fOwnV_ok (c.fact 239)
  E_InvalidTable := fOwnV_ok (c.fact 240)
  E_InvalidOperation := fOwnV_ok (c.fact 241)
  D_is_integer := c.def_ 0 (d := d_is_integer)
  D_is_within := c.def_ 1 (d := d_is_within)
  D_is_run := c.def_ 2 (d := d_is_run)
  D_is_name := c.def_ 3 (d := d_is_name)
  D_are_names := c.def_ 4 (d := d_are_names)
  D_Lowest___init__ := c.def_ 5 (d := d_Lowest___init__)
  D_lowest_of := c.def_ 6 (d := d_lowest_of)
  D_Ratio___init__ := c.def_ 7 (d := d_Ratio___init__)
  D_Ratio_top := c.def_ 8 (d := d_Ratio_top)
  D_Ratio_bottom := c.def_ 9 (d := d_Ratio_bottom)
  D_Ratio_over := c.def_ 10 (d := d_Ratio_over)
  D_Ratio___add__ := c.def_ 11 (d := d_Ratio___add__)
  D_Ratio___sub__ := c.def_ 12 (d := d_Ratio___sub__)
  D_Ratio___mul__ := c.def_ 13 (d := d_Ratio___mul__)
  D_Ratio___neg__ := c.def_ 14 (d := d_Ratio___neg__)
  D_Ratio___abs__ := c.def_ 15 (d := d_Ratio___abs__)
  D_Ratio___bool__ := c.def_ 16 (d := d_Ratio___bool__)
  D_Ratio___eq__ := c.def_ 17 (d := d_Ratio___eq__)
  D_Ratio___str__ := c.def_ 18 (d := d_Ratio___str__)
  D_told_lowest := c.def_ 19 (d := d_told_lowest)
  D_ratio_from := c.def_ 20 (d := d_ratio_from)
  D_is_ratio := c.def_ 21 (d := d_is_ratio)
  D_require_ratio := c.def_ 22 (d := d_require_ratio)
  D_are_levels := c.def_ 23 (d := d_are_levels)
  D_are_codes := c.def_ 24 (d := d_are_codes)
  D_are_amounts := c.def_ 25 (d := d_are_amounts)
  D_Factor___init__ := c.def_ 26 (d := d_Factor___init__)
  D_Factor_of_names := c.def_ 27 (d := d_Factor_of_names)
  D_Factor_levels := c.def_ 28 (d := d_Factor_levels)
  D_Factor_codes := c.def_ 29 (d := d_Factor_codes)
  D_Factor_kind := c.def_ 30 (d := d_Factor_kind)
  D_Factor___len__ := c.def_ 31 (d := d_Factor___len__)
  D_Factor___eq__ := c.def_ 32 (d := d_Factor___eq__)
  D_Numbers___init__ := c.def_ 33 (d := d_Numbers___init__)
  D_Numbers_ratios := c.def_ 34 (d := d_Numbers_ratios)
  D_Numbers_kind := c.def_ 35 (d := d_Numbers_kind)
  D_Numbers___len__ := c.def_ 36 (d := d_Numbers___len__)
  D_Numbers___eq__ := c.def_ 37 (d := d_Numbers___eq__)
  D_is_column := c.def_ 38 (d := d_is_column)
  D_worths_of := c.def_ 39 (d := d_worths_of)
  D_are_columns := c.def_ 40 (d := d_are_columns)
  D_require_length := c.def_ 41 (d := d_require_length)
  D_Table___init__ := c.def_ 42 (d := d_Table___init__)
  D_Table_columns := c.def_ 43 (d := d_Table_columns)
  D_Table_names := c.def_ 44 (d := d_Table_names)
  D_Table_total := c.def_ 45 (d := d_Table_total)
  D_Table_kinds := c.def_ 46 (d := d_Table_kinds)
  D_Table_require_names := c.def_ 47 (d := d_Table_require_names)
  D_Table_worths := c.def_ 48 (d := d_Table_worths)
  D_Table_shown := c.def_ 49 (d := d_Table_shown)
  D_Table_with_column := c.def_ 50 (d := d_Table_with_column)
  D_Table___getitem__ := c.def_ 51 (d := d_Table___getitem__)
  D_Table___contains__ := c.def_ 52 (d := d_Table___contains__)
  D_Table___iter__ := c.def_ 53 (d := d_Table___iter__)
  D_Table___len__ := c.def_ 54 (d := d_Table___len__)
  D_Table___eq__ := c.def_ 55 (d := d_Table___eq__)
  D_Table___str__ := c.def_ 56 (d := d_Table___str__)
  D_w_reel := c.def_ 57 (d := d_w_reel)
  D_w_turn := c.def_ 58 (d := d_w_turn)
  D_w_any := c.def_ 59 (d := d_w_any)
  D_w_names := c.def_ 60 (d := d_w_names)
  D_w_levels := c.def_ 61 (d := d_w_levels)
  D_w_worth := c.def_ 62 (d := d_w_worth)
  D_w_codes := c.def_ 63 (d := d_w_codes)
  D_w_column := c.def_ 64 (d := d_w_column)
  D_w_rows := c.def_ 65 (d := d_w_rows)
  D_w_ratio := c.def_ 66 (d := d_w_ratio)
  D_w_made := c.def_ 67 (d := d_w_made)
  D_w_table := c.def_ 68 (d := d_w_table)
  D_w_text := c.def_ 69 (d := d_w_text)
  D_w_shown := c.def_ 70 (d := d_w_shown)
  D_w_due := c.def_ 71 (d := d_w_due)
  D_w_worths := c.def_ 72 (d := d_w_worths)
  D_w_with := c.def_ 73 (d := d_w_with)
  D_w_own := c.def_ 74 (d := d_w_own)
  D_w_columns_right := c.def_ 75 (d := d_w_columns_right)
  D_w_rows_right := c.def_ 76 (d := d_w_rows_right)
  D_w_changed_right := c.def_ 77 (d := d_w_changed_right)
  D_w_right := c.def_ 78 (d := d_w_right)
  D_w_written := c.def_ 79 (d := d_w_written)
  D_law := c.def_ 80 (d := d_law)
  }
))
end LW
end
section
open PySem PySem.W PySem.Calls PyProof.Rows
theorem LW.ahead (h : (OpenLaw.row PySem.Challenge.rw_worthstead_k12_tables_told).wellSaid = true → (OpenLaw.row PySem.Challenge.rw_worthstead_k12_tables_told).Holds) : PySem.Challenge.rw_worthstead_k12_tables_told.Holds := @NI.run _ (by exact NI.carry : NI.Carry (by
  w_on; o_law
  exact h ‹_›
))
end
section
namespace Wo
open PySem PySem.Spec PyProof.Rows L2
end Wo
end
section
namespace Wo
open PySem PySem.Spec PyProof.Rows L2
end Wo
end
section
namespace Wo
open PySem PySem.Spec PyProof.Rows L2
section
variable {K : PySem.W.Frag} {α β γ δ : Type} {T : Rl γ} {U : Rl δ} [Up T] [Up U] {S : Rl β} [Up S] {σ : L2.St} {H1 : Hp} {Q : VK} {tt : TT} {te : TE} {vs : List Nat} {as : List (γ × δ)} {J : It}
theorem lcF_pair {i j : Nat} (W : Wk J H1 (RP K T U) as) (hz : as.length ≤ sizeLine) (p : γ × δ → Bool) (f : γ × δ → β)
    (hd : ∀ v H', Same H1 H' → RL K S H' v ((as.filter p).map f) → Q v H')
    (ht : ∀ a G x y, a ∈ as → Same H1 G → T G x a.1 → U G y a.2 → ∀ Kt : Bool → Hp → Prop, Kt (p a) G → tt (((wipe σ vs).set i (some x)).set j (some y)) G Kt)
    (hb : ∀ a G x y, a ∈ as → p a = true → Same H1 G → T G x a.1 → U G y a.2 → ∀ Kt : VK, (∀ y G', Same G G' → S G' y (f a) → Kt y G') → te (((wipe σ vs).set i (some x)).set j (some y)) G Kt)
    (hw : ∀ v u, wipe (((wipe σ vs).set i (some v)).set j (some u)) vs = wipe σ vs := by intro _ _; rfl) : LcF J H1 (gTup K 2 (gCons (gName i) (gCons (gName j) gNil))) tt te vs σ Q := @NI.run _ (by exact NI.carry : NI.Carry (by
  intro D hD
  refine ⟨fun i m H => m = as.length - i ∧ i ≤ as.length ∧ ∃ G acc, H = upd G D (.lst acc) ∧ G D = none ∧ Same H1 G ∧ RAll S G acc (((as.take i).filter p).map f), ⟨as.length, by simp, Nat.zero_le _, H1, [], rfl, hD, Same.refl _, by rw [List.take_zero]; exact .nil⟩, ?_⟩
  rintro k m H ⟨rfl, hi, G, acc, rfl, hG, s, ra⟩
  have hla : acc.length ≤ k := by
    rw [ra.len, List.length_map]
    exact Nat.le_trans (List.length_filter_le _ _) (by rw [List.length_take]; omega)
  by_cases hlt : k < as.length
  · refine .inr ⟨W.go k _ (s.trans (Same.new hG)) hlt, fun H' => ∃ G' acc', H' = upd G' D (.lst acc') ∧ G' D = none ∧ Same H1 G' ∧ RAll S G' acc' (((as.take (k + 1)).filter p).map f), ?_, ?_⟩
    · rintro H' ⟨G', acc', e, h1, h2, h3⟩
      exact ⟨as.length - (k + 1), by omega, rfl, hlt, G', acc', e, h1, h2, h3⟩
    · intro x H' hy
      obtain ⟨G', s2, hG', eH, rx⟩ := W.yldD k G D _ x H' as[k] s hG (by simp [hlt]) hy
      subst eH
      have hm : as[k] ∈ as := List.getElem_mem hlt
      have et : as.take (k + 1) = as.take k ++ [as[k]] := by
        rw [List.take_succ]
        simp [hlt]
      obtain ⟨q, y1, z1, rfl, hs, r1, r2⟩ := rx
      refine gok_pair hs gok_name gok_name _ (Same.new hG') _ ⟨hw y1 z1, ?_⟩
      refine ⟨D, acc, upd_same, ?_⟩
      rw [hid_upd hG']
      refine ht as[k] G' y1 z1 hm (s.trans s2) r1 r2 _ fun hG2 => ?_
      by_cases hp : p as[k] = true
      · rw [hp]
        show (if true = true then _ else _)
        rw [if_pos rfl]
        refine ⟨D, acc, upd_same, ?_⟩
        rw [hid_upd hG']
        refine hb as[k] G' y1 z1 hm hp (s.trans s2) r1 r2 _ fun y G2 s3 hy2 hG2 => ?_
        refine ⟨acc, upd_same, by omega, G2, acc ++ [y], ?_, hG2, (s.trans s2).trans s3, ?_⟩
        · rw [upd_upd]
        · rw [et, List.filter_append, List.map_append, List.filter_cons_of_pos hp]
          exact (ra.up (s2.trans s3)).snoc hy2
      · rw [show p as[k] = false from Bool.eq_false_iff.mpr hp]
        show (if false = true then _ else _)
        rw [if_neg (by decide)]
        refine ⟨G', acc, rfl, hG', s.trans s2, ?_⟩
        rw [et, List.filter_append, List.map_append, List.filter_cons_of_neg hp]
        simp only [List.filter_nil, List.map_nil, List.append_nil]
        exact ra.up s2
  · have e : k = as.length := by omega
    subst e
    refine .inl ⟨W.stop _ (s.trans (Same.new hG)), hd _ _ (s.trans (Same.new hG)) ?_⟩
    rw [List.take_length] at ra
    exact RL.mk hG ra (by omega)
))
end
end Wo
end
section
namespace Wo
open PySem PySem.Spec PyProof.Rows L2
def RW : Rl (List Int) := fun H v ns => ∃ p, v = .ref p ∧ H p = some (.tup (ns.map V.int)) ∧ ns.length ≤ sizeLine
instance : Up RW := ⟨fun e ⟨p, a, b, c⟩ => ⟨p, a, e _ _ b, c⟩⟩
theorem RW.rt {K : PySem.W.Frag} {H : Hp} {v : V} {ns : List Int} (h : RW H v ns) : RT K RI H v ns := @NI.run _ (by exact NI.carry : NI.Carry (by
  obtain ⟨p, rfl, e, z⟩ := h
  exact ⟨p, _, rfl, .inl (.inl e), RAll.ints, by rw [List.length_map]; exact z⟩
))
theorem RW.mk {H : Hp} {p : Addr} {ns : List Int} (z : ns.length ≤ sizeLine) : RW (upd H p (.tup (ns.map V.int))) (.ref p) ns := ⟨p, rfl, upd_same, z⟩
def wk (ns : List Int) : List Key := ns.map Sum.inl
theorem wk_kV (ns : List Int) : (wk ns).map kV = ns.map V.int := @NI.run _ (by exact NI.carry : NI.Carry (by
  unfold wk
  rw [List.map_map]
  exact List.map_congr_left fun _ _ => rfl
))
theorem wk_inj : ∀ {a b : List Int}, wk a = wk b → a = b
  | [], [], _ => rfl
  | x :: a, y :: b, h => by
    unfold wk at h
    rw [List.map_cons, List.map_cons] at h
    injection h with h1 h2
    injection h1 with h3
    rw [h3, wk_inj (a := a) (b := b) h2]
  | [], _ :: _, h => nomatch h
  | _ :: _, [], h => nomatch h
theorem kRevL (K : PySem.W.Frag) {X : Cx} {e : Expr} {te : TE} {k : Nat} {p1 p2 p3 pos : Pos} (he : PE X e te) (h : X.K = K := by rfl) : PE X (.Subscript e (.Slice none none (some (.UnaryOp .USub (.Constant (.int 1) k p1) p2)) p3) pos) (tRevL K te) := @NI.run _ (by exact NI.carry : NI.Carry (by subst h; exact pe_revL he
))
section
variable {K : PySem.W.Frag} {α : Type} {R : Rl α} [Up R] {H : Hp} {Q : VK}
theorem RAll.rev : ∀ {vs : List V} {as : List α}, RAll R H vs as → RAll R H vs.reverse as.reverse
  | [], [], .nil => .nil
  | _ :: _, _ :: _, .cons h t => by
    rw [List.reverse_cons, List.reverse_cons]
    exact RAll.append (RAll.rev t) (.cons h .nil)
theorem rd_revL {te : TE} {σ : L2.St} (q : te σ H fun x H1 => ∃ a xs, x = .ref a ∧ SqL K H1 a xs ∧ ∀ p, H1 p = none → Q (.ref p) (upd H1 p (.lst xs.reverse))) : tRevL K te σ H Q := q
end
def hd (d : Addr) (H : Hp) : Hp := fun a => if a = d then none else H a
theorem same_upd0 {d : Addr} {H H' : Hp} {o : HO} (h : H d = none) (e : Same H H') : Same H (upd H' d o) := fun b u q => by
  have hb : b ≠ d := fun z => by rw [z, h] at q; cases q
  rw [upd_ne hb]
  exact e b u q
theorem rd_tNotIn {ty td : TE} {σ : L2.St} {H : Hp} {Q : VK} (q : ty σ H fun y H1 => td σ H1 fun x H2 => ∃ a o, x = .ref a ∧ DGet H2 a y o ∧ Q (.bl (!o.isSome)) H2) : tDNotIn ty td σ H Q := q
theorem rd_tIn {ty td : TE} {σ : L2.St} {H : Hp} {Q : VK} (q : ty σ H fun y H1 => td σ H1 fun x H2 => ∃ a o, x = .ref a ∧ DGet H2 a y o ∧ Q (.bl o.isSome) H2) : tDIn ty td σ H Q := q
end Wo
end
section
namespace Wo
open PySem PySem.Spec PyProof.Rows L2
def RA (K : PySem.W.Frag) {β γ : Type} (R : Rl β) (S : Rl γ) : Rl (Fl ⊕ (List β ⊕ List γ)) := fun H v a => match a with
  | .inl f => RF H v f
  | .inr (.inl bs) => RT K R H v bs
  | .inr (.inr cs) => RL K S H v cs
instance {K : PySem.W.Frag} {β γ : Type} {R : Rl β} {S : Rl γ} [Up R] [Up S] : Up (RA K R S) := ⟨fun {H H' v a} e h => by
  rcases a with f | bs | cs
  · exact h
  · exact Up.up (R := RT K R) e h
  · exact Up.up (R := RL K S) e h⟩
end Wo
end
section
namespace Wo
open PySem PySem.Spec PyProof.Rows L2
open PySem.W (Frag)
end Wo
end
section
namespace Wo
open PySem PySem.Spec PyProof.Rows L2
end Wo
end
section
namespace Wo
open PySem PySem.Spec PyProof.Rows L2
def iOr (t1 t2 : TI) : TI := fun σ H R => t1 σ H R ∨ t2 σ H R
theorem pi_or {X : Cx} {tg e : Expr} {t1 t2 : TI} (h1 : PI X tg e t1) (h2 : PI X tg e t2) : PI X tg e (iOr t1 t2) := @NI.run _ (by exact NI.carry : NI.Carry (by
  exact ⟨fun pins s σ H R I h => h.elim (h1.run pins s σ H R I) (h2.run pins s σ H R I)⟩
))
end Wo
end
section
namespace Wo
open PySem PySem.Spec PyProof.Rows L2
end Wo
end
section
namespace Wo
open PySem PySem.Spec PyProof.Rows L2
section
variable {P : Program} {w : World}
def NoCls (P : Program) (w : World) (n : Nat) (s : Shared) (v : Value) : Prop := ∀ (A : Around) (E : Value → Shared → Prop) (Q : Bool → Shared → Prop), Q false s → wpAny (model P w) A (ofAClassStatement n v) Q E s
def Told (P : Program) (w : World) (n : Nat) (s : Shared) (v : Value) : Prop := ∀ (A : Around) (E : Value → Shared → Prop) (Q : Bool → Shared → Prop), (∀ b, Q b s) → wpAny (model P w) A (hashByValue n v) Q E s
theorem NoCls.tup {n : Nat} {s : Shared} {a : Addr} {o : Obj} {vs : Array Value} {m : Nat} (ho : s.heap.get? a = some o) (hc : o.cls = .type "tuple") (hd : o.data = .seq vs m) (hq : ∀ v ∈ vs.toList, NoCls P w n s v) : NoCls P w (n + 1) s (.ref a) := fun A E Q h => by
  unfold ofAClassStatement
  refine wpAny_bind (wpAny_typeOf (⟨o, ho, hc⟩ : s.TypeIs (.ref a) "tuple") ?_)
  have e : (("tuple" : String) == "tuple") = true := by decide
  simp only [e, if_true, Bool.not_true, Bool.false_eq_true, if_false]
  try refine wpAny_bind (wpAny_pure ?_)
  try simp only [Bool.not_true, Bool.false_eq_true, if_false]
  show wpAny _ _ (seqItems? (.ref a) >>= _) _ _ s
  refine wpAny_bind (wpAny_seqItems ho hd ?_)
  refine wpAny_bind ?_
  show wpAny _ _ (forIn vs _ _) _ _ s
  rw [← Array.forIn_toList]
  refine wpAny_forIn_list _ (fun left r s' => r.1 = none ∧ s' = s ∧ ∀ v ∈ left, NoCls P w n s v) _ ?_ ?_ _ _ ⟨rfl, rfl, hq⟩
  · rintro v left r s' ⟨hr, rfl, all⟩
    refine wpAny_bind (all v List.mem_cons_self _ _ _ ?_)
    simp only [Bool.false_eq_true, if_false]
    exact wpAny_pure ⟨rfl, rfl, fun u z => all u (List.mem_cons_of_mem _ z)⟩
  · rintro ⟨r1, r2⟩ s' ⟨hr, rfl, _⟩
    cases hr
    exact wpAny_pure h
theorem Told.tup {n : Nat} {s : Shared} {a : Addr} {o : Obj} {vs : Array Value} {m : Nat} (ho : s.heap.get? a = some o) (hc : o.cls = .type "tuple") (hd : o.data = .seq vs m) (hq : ∀ v ∈ vs.toList, Told P w n s v) : Told P w (n + 1) s (.ref a) := fun A E Q h => by
  unfold hashByValue
  refine wpAny_bind (wpAny_specialOf (⟨o, ho, hc⟩ : s.TypeIs (.ref a) "tuple") F.slot_tuple_hash.lookup ?_)
  show wpAny _ _ (seqItems? (.ref a) >>= _) _ _ s
  refine wpAny_bind (wpAny_seqItems ho hd ?_)
  refine wpAny_bind ?_
  show wpAny _ _ (forIn vs _ _) _ _ s
  rw [← Array.forIn_toList]
  refine wpAny_forIn_list _ (fun left r s' => s' = s ∧ ∀ v ∈ left, Told P w n s v) _ ?_ ?_ _ _ ⟨rfl, hq⟩
  · rintro v left r s' ⟨rfl, all⟩
    refine wpAny_bind (all v List.mem_cons_self _ _ _ fun b => ?_)
    cases b
    · exact wpAny_pure (wpAny_pure (h _))
    · exact wpAny_pure ⟨rfl, fun u z => all u (List.mem_cons_of_mem _ z)⟩
  · rintro ⟨r1, r2⟩ s' ⟨rfl, _⟩
    cases r1 with
    | none => exact wpAny_pure (h _)
    | some b => exact wpAny_pure (h _)
abbrev NKd (P : Program) (w : World) : HeapKind P w NestedKey := nestedKind P w
end
end Wo
end
section
namespace Wo
open PySem PySem.Spec PyProof.Rows L2
section
variable {P : Program} {w : World}
abbrev nh (P : Program) (w : World) (k : NestedKey) : Int := (NKd P w).hash k
structure SetG (P : Program) (w : World) (h : Heap) (a : Addr) (ks : List (Addr × NestedKey)) (es : Array (Int × Value)) (ep : Nat) (t : SetTable) : Prop where
  ob : ∃ o, h.get? a = some o ∧ o.ExactSet ∧ o.data = .set es ep t
  tab : TabOk t (es.toList.map (·.1))
  ent : ∀ e ∈ es.toList, ∃ b k, (b, k) ∈ ks ∧ e = (nh P w k, Value.ref b) ∧ (NKd P w).is h k b
  len : es.size = ks.length
  room : es.size * 5 < t.mask * 3
variable {A : Around} {E : Value → Shared → Prop} {s : Shared} {a : Addr} {ks : List (Addr × NestedKey)} {es : Array (Int × Value)} {ep : Nat} {t : SetTable}
theorem fits_of {n : Nat} (hp : t.place.size = n) (hd : t.dummies = #[]) (hl : n ≤ t.mask) : t.fits n = true := @NI.run _ (by exact NI.carry : NI.Carry (by
  have z : t.dummies.size = 0 := by rw [hd]; rfl
  unfold SetTable.fits SetTable.fill
  simp only [Bool.and_eq_true, beq_iff_eq, decide_eq_true_eq]
  omega
))
theorem SetG.psz (R : SetG P w s.heap a ks es ep t) : t.place.size = es.size := @NI.run _ (by exact NI.carry : NI.Carry (by
  have h := R.tab.sz
  rwa [List.length_map, Array.length_toList] at h
))
theorem SetG.fits (R : SetG P w s.heap a ks es ep t) : t.fits es.size = true := fits_of R.psz R.tab.dm (by have := R.room; omega)
end
end Wo
end
section
namespace Wo
open PySem PySem.Spec PyProof.Rows L2
end Wo
end
section
namespace Wo
open PySem PySem.Spec PyProof.Rows L2
section
variable {P : Program} {w : World} {A : Around} {E : Value → Shared → Prop} {s : Shared}
abbrev emptySet (led : Bool) : Obj := { cls := .type "set", dict := none, data := .set #[] 0 (.fresh 0 0 led) }
end
end Wo
end
section
namespace Wo
open PySem PySem.Spec PyProof.Rows L2
end Wo
end
section
namespace Wo
open PySem PySem.Spec PyProof.Rows L2
def sdSq (K : PySem.W.Frag) : Bool → Hp → Addr → List V → Prop
  | true => SqL K
  | false => SqT K
def ItzM (K : PySem.W.Frag) (s1 s2 : Bool) (a b : Addr) : It :=
  ⟨fun i H => ∃ (xs ys : List V) (x y : V), sdSq K s1 H a xs ∧ sdSq K s2 H b ys ∧ xs[i]? = some x ∧ ys[i]? = some y,
   fun i H v H' => ∃ T x y, v = .ref T ∧ H T = none ∧ H' = upd H T (.tup [x, y]) ∧ (∀ xs, sdSq K s1 H a xs → xs[i]? = some x) ∧ ∀ ys, sdSq K s2 H b ys → ys[i]? = some y,
   fun i H => ∃ xs ys : List V, sdSq K s1 H a xs ∧ sdSq K s2 H b ys ∧ i = min xs.length ys.length⟩
def iZipM (K : PySem.W.Frag) (k1 k2 : Bool) (ta : TA) : TI := fun σ H R => ta σ H fun vs H1 => ∃ a b xs ys, vs = [.ref a, .ref b] ∧ sdSq K k1 H1 a xs ∧ sdSq K k2 H1 b ys ∧ R (ItzM K k1 k2 a b) H1
section
variable {K : PySem.W.Frag} {α β : Type} {R : Rl α} [Up R] {S : Rl β} [Up S] {σ : L2.St} {H : Hp} {Q : VK} {g : TG} {te : TE} {ta : TA} {tb : TS} {D : Ends} {vs : List Nat} {as : List α} {bs : List β} {x y : V} {k1 k2 : Bool}
theorem rd_forZM (q : ta σ H fun us H1 => ∃ a b xs ys, us = [.ref a, .ref b] ∧ sdSq K k1 H1 a xs ∧ sdSq K k2 H1 b ys ∧ ForK (ItzM K k1 k2 a b) H1 g tb D σ) : tFor (iZipM K k1 k2 ta) g tb D σ H := q
end
end Wo
end
section
namespace Wo
open PySem PySem.Spec PyProof.Rows L2
section
variable {β : Type}
def putA (l : List (Key × β)) (k : Key) (b : β) : List (Key × β) :=
  if (l.any fun c => decide (c.1 = k)) = true then l.map (fun c => if c.1 = k then (c.1, b) else c) else l ++ [(k, b)]
def lookA (l : List (Key × β)) (k : Key) : Option β := (l.find? fun c => decide (c.1 = k)).map (·.2)
def putsA {α : Type} (kf : α → Key) (vf : α → β) (as : List α) : List (Key × β) := as.foldl (fun l a => putA l (kf a) (vf a)) []
theorem putA_len {l : List (Key × β)} {k : Key} {b : β} : (putA l k b).length ≤ l.length + 1 := @NI.run _ (by exact NI.carry : NI.Carry (by
  unfold putA
  split
  · rw [List.length_map]; omega
  · rw [List.length_append]; exact Nat.le_refl _
))
abbrev KVs (R : Rl β) (H : Hp) (kvs : List (Key × V)) (l : List (Key × β)) : Prop := Paired (fun c d => c.1 = d.1 ∧ R H c.2 d.2) kvs l
theorem KVs.up {R : Rl β} [Up R] {H H' : Hp} {kvs : List (Key × V)} {l : List (Key × β)} (e : Same H H') (h : KVs R H kvs l) : KVs R H' kvs l := Paired.mono (fun _ _ q => ⟨q.1, Up.up e q.2⟩) h
theorem KVs.any {R : Rl β} {H : Hp} {k : Key} : ∀ {kvs : List (Key × V)} {l : List (Key × β)}, KVs R H kvs l → (kvs.any fun c => decide (c.1 = k)) = (l.any fun c => decide (c.1 = k))
  | _, _, .nil => rfl
  | _, _, .cons h t => by rw [List.any_cons, List.any_cons, KVs.any t, h.1]
theorem KVs.mapk {R : Rl β} {H : Hp} {k : Key} {v : V} {b : β} (r : R H v b) : ∀ {kvs : List (Key × V)} {l : List (Key × β)}, KVs R H kvs l →
    KVs R H (kvs.map fun c => if c.1 = k then (c.1, v) else c) (l.map fun c => if c.1 = k then (c.1, b) else c)
  | _, _, .nil => .nil
  | _, _, .cons (a := a) (b := d) h t => by
    rw [List.map_cons, List.map_cons]
    refine .cons ?_ (KVs.mapk r t)
    by_cases e : a.1 = k
    · rw [if_pos e, if_pos (h.1.symm.trans e)]
      exact ⟨h.1, r⟩
    · rw [if_neg e, if_neg (fun z => e (h.1.trans z))]
      exact h
theorem KVs.put {R : Rl β} {H : Hp} {k : Key} {v : V} {b : β} {kvs : List (Key × V)} {l : List (Key × β)} (h : KVs R H kvs l) (r : R H v b) : KVs R H (putK kvs k v) (putA l k b) := @NI.run _ (by exact NI.carry : NI.Carry (by
  unfold putK putA
  rw [h.any]
  split
  · exact KVs.mapk r h
  · exact Paired.snoc h ⟨rfl, r⟩
))
theorem KVs.look {R : Rl β} {H : Hp} {k : Key} : ∀ {kvs : List (Key × V)} {l : List (Key × β)}, KVs R H kvs l → (lookA l k = none ∧ valV kvs k = none) ∨ ∃ v b, lookA l k = some b ∧ valV kvs k = some v ∧ R H v b
  | _, _, .nil => .inl ⟨rfl, rfl⟩
  | _, _, .cons (a := a) (b := d) h t => by
    by_cases e : d.1 = k
    · refine .inr ⟨a.2, d.2, ?_, valV_pos (h.1.trans e), h.2⟩
      unfold lookA
      rw [List.find?_cons]
      simp [e]
    · have e2 : ¬ a.1 = k := fun z => e (h.1.symm.trans z)
      rw [valV_neg e2]
      have e3 : ∀ l : List (Key × β), lookA (d :: l) k = lookA l k := fun l => by
        unfold lookA
        rw [List.find?_cons]
        simp only [e, decide_false]
      rw [e3]
      exact KVs.look t
def DA (R : Rl β) (H : Hp) (d : Addr) (l : List (Key × β)) : Prop := ∃ kvs, H d = some (.dK kvs) ∧ KVs R H kvs l
def DL (R : Rl β) (H : Hp) (d : Addr) (l : List (Key × β)) : Prop := ∃ o kvs, H d = some (.frz o (.dK kvs)) ∧ KVs R H kvs l
theorem DA.up {R : Rl β} [Up R] {H H' : Hp} {d : Addr} {l : List (Key × β)} (e : Same H H') (h : DA R H d l) : DA R H' d l := @NI.run _ (by exact NI.carry : NI.Carry (by
  obtain ⟨kvs, a, b⟩ := h
  exact ⟨kvs, e _ _ a, b.up e⟩
))
theorem DL.up {R : Rl β} [Up R] {H H' : Hp} {d : Addr} {l : List (Key × β)} (e : Same H H') (h : DL R H d l) : DL R H' d l := @NI.run _ (by exact NI.carry : NI.Carry (by
  obtain ⟨o, kvs, a, b⟩ := h
  exact ⟨o, kvs, e _ _ a, b.up e⟩
))
theorem DA.dget {R : Rl β} {H : Hp} {d : Addr} {l : List (Key × β)} (h : DA R H d l ∨ DL R H d l) {k : Key} {C : Option V → Prop} (q : ∀ o, o.isSome = (lookA l k).isSome → (∀ b, lookA l k = some b → ∃ v, o = some v ∧ R H v b) → C o) :
    ∃ a o, V.ref d = .ref a ∧ DGet H a (kV k) o ∧ C o := @NI.run _ (by exact NI.carry : NI.Carry (by
  obtain ⟨kvs, hr, hk⟩ : ∃ kvs, Rd H d (.dK kvs) ∧ KVs R H kvs l := by
    rcases h with ⟨kvs, a, b⟩ | ⟨o, kvs, a, b⟩
    · exact ⟨kvs, .inl a, b⟩
    · exact ⟨kvs, .inr ⟨o, a⟩, b⟩
  refine ⟨d, valV kvs k, rfl, .inl ⟨kvs, k, hr, rfl, rfl⟩, q _ ?_ ?_⟩
  · rcases hk.look (k := k) with ⟨a, b⟩ | ⟨v, b, a, c, _⟩
    · rw [a, b]; rfl
    · rw [a, c]; rfl
  · intro b hb
    rcases hk.look (k := k) with ⟨a, _⟩ | ⟨v, b', a, c, r⟩
    · rw [a] at hb; cases hb
    · rw [a] at hb
      cases hb
      exact ⟨v, c, r⟩
))
end
class Ud {α : Type} (S : Rl α) : Prop where
  ud : ∀ {H : Hp} {d : Addr} {kvs : List (Key × V)} {v : V} {a : α}, H d = some (.dK kvs) → S H v a → S (hd d H) v a
instance : Ud RI := ⟨fun _ h => h⟩
instance : Ud RB := ⟨fun _ h => h⟩
instance : Ud RS := ⟨fun _ h => h⟩
theorem hd_keep {d b : Addr} {H : Hp} {kvs : List (Key × V)} {u : HO} (e : H d = some (.dK kvs)) (h : H b = some u) (n : ∀ kvs, u ≠ .dK kvs) : hd d H b = some u := @NI.run _ (by exact NI.carry : NI.Carry (by
  unfold hd
  rw [if_neg (fun z => by
    subst z
    exact n kvs (Option.some.inj (h.symm.trans e)))]
  exact h
))
theorem hd_sqt {K : PySem.W.Frag} {d b : Addr} {H : Hp} {kvs : List (Key × V)} {xs : List V} (e : H d = some (.dK kvs)) (h : SqT K H b xs) : SqT K (hd d H) b xs := @NI.run _ (by exact NI.carry : NI.Carry (by
  rcases h with (h | ⟨o, h⟩) | h
  · exact .inl (.inl (hd_keep e h fun _ z => nomatch z))
  · exact .inl (.inr ⟨o, hd_keep e h fun _ z => nomatch z⟩)
  · exact .inr h
))
instance {K : PySem.W.Frag} {α : Type} {S : Rl α} [Ud S] : Ud (RT K S) := ⟨fun e ⟨p, vs, a, b, c, z⟩ => ⟨p, vs, a, hd_sqt e b, Paired.mono (fun _ _ q => Ud.ud e q) c, z⟩⟩
instance {K : PySem.W.Frag} {α : Type} {S : Rl α} [Ud S] : Ud (RL K S) := ⟨fun e ⟨p, vs, a, b, c, z⟩ => ⟨p, vs, a, by
  rcases b with (h | ⟨o, h⟩) | h
  · exact .inl (.inl (hd_keep e h fun _ z => nomatch z))
  · exact .inl (.inr ⟨o, hd_keep e h fun _ z => nomatch z⟩)
  · exact .inr h, Paired.mono (fun _ _ q => Ud.ud e q) c, z⟩⟩
instance : Ud RW := ⟨fun e ⟨p, a, b, z⟩ => ⟨p, a, hd_keep e b (fun _ z => nomatch z), z⟩⟩
instance {K : PySem.W.Frag} {α β : Type} {S : Rl α} {T : Rl β} [Ud S] [Ud T] : Ud (RP K S T) := ⟨fun e ⟨p, x, y, a, b, c, d⟩ => ⟨p, x, y, a, hd_sqt e b, Ud.ud e c, Ud.ud e d⟩⟩
theorem hd_of {d : Addr} {H : Hp} {o : HO} : hd d (upd H d o) = hd d H := @NI.run _ (by exact NI.carry : NI.Carry (by
  funext b
  unfold hd
  by_cases h : b = d
  · rw [if_pos h, if_pos h]
  · rw [if_neg h, if_neg h, upd_ne h]
))
theorem hd_le {d : Addr} {H : Hp} : Same (hd d H) H := fun b u q => by
  unfold hd at q
  split at q
  · cases q
  · exact q
theorem hd_mono {d : Addr} {H H' : Hp} (e : Same H H') : Same (hd d H) (hd d H') := fun b u q => by
  unfold hd at q ⊢
  split at q
  · cases q
  · rename_i h
    rw [if_neg h]
    exact e b u q
def DcK (J : It) (H1 : Hp) (g : TG) (tk tv : TE) (vs : List Nat) (σ : L2.St) (Q : VK) : Prop := ∀ D, H1 D = none → ∃ W : Nat → Nat → Hp → Prop, (∃ m, W 0 m (upd H1 D (.dK []))) ∧ ∀ i m H, W i m H →
  (J.stop i H ∧ Q (.ref D) H) ∨ (J.go i H ∧ ∃ Nx : Hp → Prop, (∀ H', Nx H' → ∃ m', m' < m ∧ W (i + 1) m' H') ∧ ∀ x H', J.yld i H x H' → g x (wipe σ vs) H' fun σ2 H2 => wipe σ2 vs = wipe σ vs ∧ tYes σ2 H2 fun b H3 =>
    if b = true then tk σ2 H3 fun y H4 => tv σ2 H4 fun z H5 => ∃ kvs k, y = kV k ∧ H5 D = some (.dK kvs) ∧ kvs.length < sizeLine ∧ Nx (upd H5 D (.dK (putK kvs k z))) else Nx H3)
section
variable {K : PySem.W.Frag} {α β : Type} {R : Rl α} {S : Rl β} [Up R] [Up S] [Ud S] {J : It} {H H1 : Hp} {as : List α} {g : TG} {tk tv tl : TE} {vs : List Nat} {σ : L2.St} {Q : VK} {x : V}
theorem foldl_take {γ : Type} {f : γ → α → γ} {z : γ} {as : List α} {i : Nat} {a : α} (h : as[i]? = some a) : (as.take (i + 1)).foldl f z = f ((as.take i).foldl f z) a := @NI.run _ (by exact NI.carry : NI.Carry (by
  rw [List.take_succ, h, Option.toList_some, List.foldl_append]
  rfl
))
def DH (S : Rl β) (H : Hp) (d : Addr) (l : List (Key × β)) : Prop := ∃ kvs, H d = some (.dK kvs) ∧ KVs S (hd d H) kvs l
omit [Ud S] in
theorem DH.da {d : Addr} {l : List (Key × β)} (h : DH S H d l) : DA S H d l := @NI.run _ (by exact NI.carry : NI.Carry (by
  obtain ⟨kvs, a, b⟩ := h
  exact ⟨kvs, a, b.up hd_le⟩
))
theorem dcK_map (W : Wk J H1 R as) (hz : as.length ≤ sizeLine) (kf : α → Key) (vf : α → β)
    (hq : ∀ d H', Same H1 H' → H1 d = none → DH S H' d (putsA kf vf as) → Q (.ref d) H')
    (hb : ∀ a G x, a ∈ as → Same H1 G → R G x a → ∃ σ2, GOk g x (wipe σ vs) G σ2 ∧ wipe σ2 vs = wipe σ vs ∧ ∀ Kt : V → V → Hp → Prop, (∀ z G', Same G G' → S G' z (vf a) → Kt (kV (kf a)) z G') → tk σ2 G fun y H4 => tv σ2 H4 fun z H5 => Kt y z H5) : DcK J H1 g tk tv vs σ Q := @NI.run _ (by exact NI.carry : NI.Carry (by
  intro D hD
  refine ⟨fun i m H => m = as.length - i ∧ i ≤ as.length ∧ Same H1 H ∧ DH S H D (putsA kf vf (as.take i)) ∧ (putsA kf vf (as.take i)).length ≤ i, ⟨as.length, by simp, Nat.zero_le _, Same.new hD, ?_⟩, ?_⟩
  · rw [List.take_zero]
    exact ⟨⟨[], upd_same, .nil⟩, Nat.le_refl _⟩
  rintro i m H ⟨rfl, hi, s, hA, hn⟩
  by_cases hlt : i < as.length
  · have hia : as[i]? = some as[i] := by simp [hlt]
    refine .inr ⟨W.go i H s hlt, fun H' => Same H1 H' ∧ DH S H' D (putsA kf vf (as.take (i + 1))) ∧ (putsA kf vf (as.take (i + 1))).length ≤ i + 1, fun H' q => ⟨as.length - (i + 1), by omega, rfl, hlt, q⟩, fun x H' hy => ?_⟩
    obtain ⟨s2, rx⟩ := W.yld i H x H' as[i] s hia hy
    obtain ⟨σ2, g1, g2, g3⟩ := hb as[i] H' x (List.getElem_mem hlt) (s.trans s2) rx
    refine g1 H' (Same.refl _) _ ⟨g2, tYes_of (g3 _ fun z G' s3 rz => ?_)⟩
    obtain ⟨kvs, hk0, hr0⟩ := hA
    have hk := (s2.trans s3) _ _ hk0
    have hr : KVs S (hd D G') kvs (putsA kf vf (as.take i)) := KVs.up (hd_mono (s2.trans s3)) hr0
    have hst : putsA kf vf (as.take (i + 1)) = putA (putsA kf vf (as.take i)) (kf as[i]) (vf as[i]) := foldl_take hia
    have ne : Same H1 (upd G' D (.dK (putK kvs (kf as[i]) z))) := same_upd0 hD (s.trans (s2.trans s3))
    refine ⟨kvs, kf as[i], rfl, hk, ?_, ne, ?_, ?_⟩
    · have := Paired.length hr
      omega
    · rw [hst]
      refine ⟨_, upd_same, ?_⟩
      rw [hd_of]
      exact KVs.put hr (Ud.ud hk rz)
    · rw [hst]
      exact Nat.le_trans putA_len (by omega)
  · have e : i = as.length := by omega
    subst e
    rw [List.take_length] at hA
    exact .inl ⟨W.stop H s, hq D H s hD hA⟩
))
theorem rd_dcT (q : tl σ H fun x H1 => ∃ a, x = .ref a ∧ (∃ xs, SqT K H1 a xs) ∧ DcK (Itt K a) H1 g tk tv vs σ Q) : tDc (iTup K tl) g tYes tk tv vs σ H Q := q
theorem rd_dcL (q : tl σ H fun x H1 => ∃ a, x = .ref a ∧ (∃ xs, SqL K H1 a xs) ∧ DcK (Itl K a) H1 g tk tv vs σ Q) : tDc (iList K tl) g tYes tk tv vs σ H Q := q
theorem dcT (h : RT K R H x as) (q : ∀ J, Wk J H R as → as.length ≤ sizeLine → DcK J H g tk tv vs σ Q) : ∃ a, x = .ref a ∧ (∃ xs, SqT K H a xs) ∧ DcK (Itt K a) H g tk tv vs σ Q := @NI.run _ (by exact NI.carry : NI.Carry (by
  obtain ⟨p, ws, rfl, s, r, z⟩ := id h
  exact ⟨p, rfl, ⟨ws, s⟩, q _ (wk_tup h) (by rw [← r.len]; exact z)⟩
))
theorem dcL (h : RL K R H x as) (q : ∀ J, Wk J H R as → as.length ≤ sizeLine → DcK J H g tk tv vs σ Q) : ∃ a, x = .ref a ∧ (∃ xs, SqL K H a xs) ∧ DcK (Itl K a) H g tk tv vs σ Q := @NI.run _ (by exact NI.carry : NI.Carry (by
  obtain ⟨p, ws, rfl, s, r, z⟩ := id h
  exact ⟨p, rfl, ⟨ws, s⟩, q _ (wk_list h) (by rw [← r.len]; exact z)⟩
))
end
def RKy : Rl Key := fun _ v k => v = kV k
instance : Up RKy := ⟨fun _ h => h⟩
end Wo
end
section
namespace Wo
open PySem PySem.Spec PyProof.Rows L2
end Wo
end
section
namespace Wo
open PySem PySem.Spec PyProof.Rows L2
end Wo
end
section
namespace Wo
open PySem PySem.Spec PyProof.Rows L2
def RC : Rl Nat := fun _ v c => v = .str ⟨#[c]⟩
instance : Up RC := ⟨fun _ h => h⟩
theorem wk_str {z : Str} {H0 : Hp} : Wk (Its z) H0 RC z.cps.toList := @NI.run _ (by exact NI.carry : NI.Carry (by
  have at_ : ∀ {i : Nat} {x : V} {a : Nat}, z.cps.toList[i]? = some a → (∃ c, z.cps[i]? = some c ∧ x = .str ⟨#[c]⟩) → x = .str ⟨#[a]⟩ := by
    rintro i x a ha ⟨c, hc, rfl⟩
    rw [Array.getElem?_toList, hc] at ha
    cases ha
    rfl
  refine ⟨fun i H s hi => (show i < z.cps.size by simpa using hi), fun H s => (show z.cps.size ≤ z.cps.toList.length by simp), ?_, ?_⟩
  · rintro i H x H' a s ha ⟨rfl, hy⟩
    exact ⟨Same.refl _, at_ ha hy⟩
  · rintro i G D o x H' a s hD ha ⟨rfl, hy⟩
    exact ⟨G, Same.refl _, hD, rfl, at_ ha hy⟩
))
section
variable {K : PySem.W.Frag} {g : TG} {te tx : TE} {vs : List Nat} {σ : L2.St} {H : Hp} {Q : VK}
theorem rd_lcS (q : tx σ H fun v H1 => ∃ z, v = .str z ∧ LcK (Its z) H1 g te vs σ Q) : tLc (iStr tx) g tYes (tHid te) vs σ H Q := q
end
end Wo
namespace Wo
open PySem PySem.Spec PyProof.Rows L2
end Wo
end
section
namespace Wo
open PySem PySem.Spec PyProof.Rows L2
end Wo
end
section
namespace Wo
open PySem PySem.Spec PyProof.Rows L2 PySem.SeqAt Srt SrtO
section
variable {prog : Program} {w : World} {A : Around} {E : Value → Shared → Prop} {s : Shared}
theorem collect_tuple {l : Addr} {vs : List Value} {Q : List Value → Shared → Prop} (hl : s.heap.IsTuple l vs.toArray)
    (h : Q vs { s with heap := (s.heap.push (seqObj "list" #[] 0)).update s.heap.objs.size (Obj.mapSeq (· ++ vs.toArray)) }) (hsz : vs.length ≤ sizeLine := by size_fits) :
    wpAny (model prog w) A (collect (.ref l)) Q E s := @NI.run _ (by exact NI.carry : NI.Carry (by
  obtain ⟨o, ho, hc, n, hd⟩ := id hl
  unfold collect
  refine wpAny_bind (wpAny_runValue (codeAny_builtin entry_proto_collect' ?_))
  show wpAny _ _ (do again (.builtin "list.__iadd__" ⟨[← newList [], .ref l], []⟩)) _ _ s
  refine wpAny_bind (wpAny_newList (wpAny_pure ⟨Code.quiet_builtin _ (by decide +kernel), codeAny_builtin entry_list_iadd' ?_⟩))
  show wpAny _ _ (Builtin.List.listExtendWith (.ref s.heap.objs.size) (.ref l) (.ref s.heap.objs.size)) _ _ { s with heap := s.heap.push (seqObj "list" #[] 0) }
  unfold Builtin.List.listExtendWith
  have ho' : (s.heap.push (seqObj "list" #[] 0)).get? l = some o := Heap.get?_push_of_some _ ho
  refine wpAny_bind (wpAny_typeOf (T := "tuple") ⟨o, ho', hc⟩ ?_)
  have ht : (Value.type "tuple" == Value.type "tuple") = true := by rfl
  rw [if_pos (by rw [ht]; simp)]
  refine wpAny_bind (listItems_at ho' hd ?_)
  refine wpAny_bind (listItems_at (xs := #[]) (n := 0) (Heap.get?_push_size _ rfl) rfl ?_)
  rw [if_neg (by simp)]
  refine wpAny_bind (listUpdate_at (xs := #[]) (n := 0) (Heap.get?_push_size _ rfl) rfl ?_ (Nat.zero_le _) (by show (#[] ++ vs.toArray).size ≤ sizeLine + 1; simp only [Array.size_append, List.size_toArray, List.length_nil]; omega))
  refine wpAny_pure ?_
  show wpAny (model prog w) A (do
      let o ← load s.heap.objs.size
      match o.data with
      | .seq xs _ => pure xs.toList
      | _ => unsupported "internal:collect") Q E { s with heap := (s.heap.push (seqObj "list" #[] 0)).update s.heap.objs.size (Obj.mapSeq (· ++ vs.toArray)) }
  refine wpAny_bind (wpAny_load (get?_update_seq (Heap.get?_push_size _ rfl) _) ?_)
  show wpAny _ _ (pure ((#[] : Array Value) ++ vs.toArray).toList) Q E _
  rw [show ((#[] : Array Value) ++ vs.toArray).toList = vs by simp]
  exact wpAny_pure h
))
theorem sortedKTup {κ : KeyKind} (hO : κ.OneLt) {l : Addr} {vs : List Value} {Q : Value → Shared → Prop} (hl : s.heap.IsTuple l vs.toArray) (h0 : KeysOf κ (pairsOf vs)) (hkk : ∀ v₁ v₂ rest, vs = v₁ :: v₂ :: rest → keyKind' (v₁ :: v₂ :: rest).toArray = pure oneType') (hL : vs.length ≤ sizeLine)
    (h : ∀ st' : SortSt, (arrOf st').Perm (pairsOf vs) → SortedToK κ (arrOf st') (pairsOf vs).size → Q (.ref (s.heap.objs.size + 1)) { s with heap := sortedAll s.heap vs ((arrOf st').map (·.2)) }) :
    wpAny (model prog w) A (call (.builtin "sorted") [.ref l]) Q E s := @NI.run _ (by exact NI.carry : NI.Carry (by
  refine Calls.call_function_entry kind_sorted plain_sorted entry_sorted (args_sorted1 _) ?_
  unfold Builtin.«sorted»
  refine wpAny_bind (m := checkCount "sorted" 1 1 _) (wpAny_pure ?_)
  refine wpAny_bind (collect_tuple hl ?_ hL)
  refine wpAny_bind (wpAny_newList ?_ hL)
  have hsz : ((s.heap.push (seqObj "list" #[] 0)).update s.heap.objs.size (Obj.mapSeq (· ++ vs.toArray))).objs.size = s.heap.objs.size + 1 := by
    rw [Heap.size_update, size_push']
  have hoL : (((s.heap.push (seqObj "list" #[] 0)).update s.heap.objs.size (Obj.mapSeq (· ++ vs.toArray))).push (seqObj "list" vs.toArray 0)).get? (s.heap.objs.size + 1) = some (seqObj "list" vs.toArray 0) := by
    rw [← hsz]; exact Heap.get?_push_size _ rfl
  show wpAny _ _ _ _ _ { s with heap := ((s.heap.push (seqObj "list" #[] 0)).update s.heap.objs.size (Obj.mapSeq (· ++ vs.toArray))).push (seqObj "list" vs.toArray 0) }
  rw [hsz]
  refine wpAny_bind (wpAny_holding (wpAny_call_entry slot_list_sort ⟨_, hoL, rfl⟩ entry_list_sort (list_sort_treeKAny hO hoL h0 hkk hL fun st' a1 a2 => ⟨_, rfl, ?_⟩) (args_list_sort _)))
  exact wpAny_pure ⟨_, rfl, h st' a1 a2⟩
))
theorem sorted_strsTup {l : Addr} {vs : List Value} {ss : List Str} {Q : Value → Shared → Prop} (hl : s.heap.IsTuple l vs.toArray) (hS : StrsAre vs ss) (hL : vs.length ≤ sizeLine)
    (h : ∀ (out : Array Value) (ss' : List Str), StrsAre out.toList ss' → ss'.Perm ss → sortedS ss' = true → Q (.ref (s.heap.objs.size + 1)) { s with heap := sortedAll s.heap vs out }) :
    wpAny (model prog w) A (call (.builtin "sorted") [.ref l]) Q E s := @NI.run _ (by exact NI.carry : NI.Carry (by
  refine sortedKTup strKind_oneLt hl hS.keysOf (fun v₁ v₂ rest e => keyKind_strs (by rw [← e]; exact hS)) hL fun st' hp hs => ?_
  obtain ⟨ss', h1, h2, h3⟩ := sorted_out_str hS hp hs
  exact h _ ss' h1 h2 h3
))
end
section
variable {X : Cx}
def rSrtS (K : PySem.W.Frag) : List V → Hp → VK → Prop := fun vs H Q => ∃ (a : Addr) (ns : List Str), vs = [V.ref a] ∧ (SqL K H a (ns.map V.str) ∨ SqT K H a (ns.map V.str)) ∧
  ∀ (out : List Str) (p : Addr), out.Perm ns → sortedS out = true → H p = none → Q (.ref p) (upd H p (.lst (out.map V.str)))
theorem cr_srtS : CallR X (.builtin "sorted") (rSrtS X.K) := @NI.run _ (by exact NI.carry : NI.Carry (by
  intro pins s σ H vs us Q I r h
  obtain ⟨a, xs, rfl, hs, q⟩ := h
  rw [Vals.ref1 r]
  have fin : ∀ (its : List Value), Vals (xs.map V.str) its → xs.length ≤ sizeLine → ∀ (out : Array Value) (ys : List Str), StrsAre out.toList ys → ys.Perm xs → sortedS ys = true → (EP X pins σ Q) (.ref (s.heap.objs.size + 1)) { s with heap := sortedAll s.heap its out } := by
    intro its rv hz out ys h1 h2 h3
    obtain ⟨ep, he'⟩ := PyProof.Rows.sortedAll_at s.heap its out
    have hlen : (ys.map V.str).length ≤ sizeLine := by rw [List.length_map, h2.length_eq]; exact hz
    exact ⟨.ref _, upd H (s.heap.objs.size + 1) (.lst (ys.map V.str)), I.laid (t' := s.toks) (fun _ _ => PyProof.Rows.sortedAll_old) (Nat.le_succ _) ⟨hlen, out.toList, ep, vals_of_strs h1, he'⟩, rfl, q ys _ h2 h3 (I.hok.fresh (Nat.le_succ _))⟩
  rcases hs with hs | hs
  · obtain ⟨its, rv, hl, hz⟩ := I.list hs
    have hlen0 := rv.length
    rw [List.length_map] at hlen0 hz
    exact PyProof.Rows.sorted_strsAny hl.isList rv.strs (by omega) (fin its rv hz)
  · obtain ⟨its, rv, hl, hz⟩ := I.tuple hs
    have hlen0 := rv.length
    rw [List.length_map] at hlen0 hz
    exact sorted_strsTup hl rv.strs (by omega) (fin its rv hz)
))
theorem kSrtS (K : PySem.W.Frag) (h : X.K = K := by rfl) : CallR X (.builtin "sorted") (rSrtS K) := @NI.run _ (by exact NI.carry : NI.Carry (by subst h; exact cr_srtS
))
end
section
variable {K : PySem.W.Frag} {H : Hp} {Q : VK} {x : V}
theorem rd_srtS {ns : List Str} (h : RL K RS H x ns ∨ RT K RS H x ns) (k : ∀ v H' out, Same H H' → out.Perm ns → sortedS out = true → RL K RS H' v out → Q v H') : rSrtS K [x] H Q := @NI.run _ (by exact NI.carry : NI.Carry (by
  have fin : ∀ {n : Nat}, ns.length ≤ sizeLine → ∀ (out : List Str) (p : Addr), out.Perm ns → sortedS out = true → H p = none → Q (.ref p) (upd H p (.lst (out.map V.str))) := fun {n} hz out p hp hs hn => k _ _ out (Same.new hn) hp hs (RL.mk hn RAll.strs (by rw [List.length_map, hp.length_eq]; exact hz))
  rcases h with ⟨p, vs, rfl, s, r, z⟩ | ⟨p, vs, rfl, s, r, z⟩
  · obtain rfl := RAll.of_strs r
    exact ⟨p, ns, rfl, .inl s, fin (n := 0) (by rw [List.length_map] at z; exact z)⟩
  · obtain rfl := RAll.of_strs r
    exact ⟨p, ns, rfl, .inr s, fin (n := 0) (by rw [List.length_map] at z; exact z)⟩
))
end
end Wo
end
section
namespace Wo
open PySem PySem.Spec PyProof.Rows L2
def keyZ (e : Int × Value) : Str := match e.2 with
  | .str k _ => k
  | _ => Str.empty
def EntZ (w : World) (e : Int × Value) : Prop := ∃ k tk, e.2 = Value.str k tk ∧ e.1 = hashStr w k
structure SetZ (w : World) (h : Heap) (a : Addr) (ls : List Str) : Prop where
  ex : ∃ ob en ep tb, h.get? a = some ob ∧ ob.ExactSet ∧ ob.data = .set en ep tb ∧ (∀ e ∈ en.toList, EntZ w e) ∧ (en.toList.map keyZ).Perm ls ∧ tb.fits en.size = true ∧ Ris tb.place.toList ∧ (w.params.followText "set-order" = true ∨ tb.led = true)
  nd : ls.Nodup
  few : ls.length < scanBound
def insZ (ls : List Str) (k : Str) : List Str := if k ∈ ls then ls else ls ++ [k]
theorem insZ_nd {ls : List Str} {k : Str} (h : ls.Nodup) : (insZ ls k).Nodup := @NI.run _ (by exact NI.carry : NI.Carry (by
  unfold insZ
  split
  · exact h
  · rename_i q
    rw [List.nodup_append]
    exact ⟨h, List.nodup_cons.mpr ⟨(fun z => nomatch z), List.nodup_nil⟩, fun x hx y hy e => q (by rw [List.mem_singleton.mp hy] at e; exact e ▸ hx)⟩
))
theorem insZ_len {ls : List Str} {k : Str} : (insZ ls k).length ≤ ls.length + 1 := @NI.run _ (by exact NI.carry : NI.Carry (by
  unfold insZ
  split
  · exact Nat.le_succ _
  · rw [List.length_append]; exact Nat.le_refl _
))
section
variable {P : Program} {w : World} {h h' : Heap} {a : Addr} {ls : List Str}
theorem SetZ.at (R : SetZ w h a ls) (q : ∀ o, h.get? a = some o → h'.get? a = some o) : SetZ w h' a ls := @NI.run _ (by exact NI.carry : NI.Carry (by
  obtain ⟨⟨ob, en, ep, tb, h1, r⟩, nd, few⟩ := R
  exact ⟨⟨ob, en, ep, tb, q ob h1, r⟩, nd, few⟩
))
theorem entZ_is {e : Int × Value} (g : EntZ w e) (k : Str) : (strKind P w).is k e.2 = true ↔ keyZ e = k := @NI.run _ (by exact NI.carry : NI.Carry (by
  obtain ⟨k0, tk, h1, _⟩ := g
  unfold keyZ
  rw [h1]
  constructor
  · intro q
    have q : Value.isStrOf k (.str k0 tk) = true := q
    obtain ⟨t, q⟩ := Value.isStrOf_shape q
    injection q
  · intro q
    subst q
    exact (by show Value.isStrOf k0 (.str k0 tk) = true; unfold Value.isStrOf; exact beq_self_eq_true k0)
))
theorem strZ_is (k : Str) (tk : Tok) : (strKind P w).is k (.str k tk) = true := (entZ_is (e := (hashStr w k, .str k tk)) ⟨k, tk, rfl, rfl⟩ k).mpr rfl
theorem entZ_all {l : List (Int × Value)} (g : ∀ e ∈ l, EntZ w e) : ElemsOf (strKind P w) l := fun e he => by
  obtain ⟨k, tk, h1, h2⟩ := g e he
  exact ⟨⟨k, by rw [h1]; exact strZ_is k tk, h2⟩, by rw [h1]; rfl⟩
theorem entZ_mem {l : List (Int × Value)} (g : ∀ e ∈ l, EntZ w e) (k : Str) : k ∈ l.map keyZ ↔ ∃ e ∈ l, (strKind P w).is k e.2 = true :=
  List.mem_map.trans ⟨fun ⟨e, he, q⟩ => ⟨e, he, (entZ_is (g e he) k).mpr q⟩, fun ⟨e, he, q⟩ => ⟨e, he, (entZ_is (g e he) k).mp q⟩⟩
end
section
variable {P : Program} {w : World} {A : Around} {E : Value → Shared → Prop} {s : Shared} {a : Addr} {ls : List Str}
theorem putZ_at {h : Heap} {o : Obj} {en en' : Array (Int × Value)} {ep : Nat} {tb tb' : SetTable} (h1 : h.get? a = some o) (h2 : o.data = .set en ep tb) : ∃ o', (h.update a (Obj.putSet en' tb')).get? a = some o' ∧ o'.data = .set en' (ep + 1) tb' ∧ (o.ExactSet → o'.ExactSet) := @NI.run _ (by exact NI.carry : NI.Carry (by
  have q := Heap.get?_update_self (Obj.putSet en' tb') h1 (by rw [putSet_of en' tb' h2]; rfl)
  rw [putSet_of en' tb' h2] at q
  exact ⟨_, q, rfl, fun x => x⟩
))
theorem tailZ {g : Bool → Sem Unit} (hg : ∀ (b : Bool) (s₁ : Shared) (Q' : Unit → Shared → Prop), Q' () s₁ → wpAny (model P w) A (g b) Q' E s₁)
    {o : Obj} {en en1 : Array (Int × Value)} {ep : Nat} {tb tb1 : SetTable} (h1 : s.heap.get? a = some o) (hx : o.ExactSet) (h2 : o.data = .set en ep tb) {ms : List Str}
    (g1 : ∀ e ∈ en1.toList, EntZ w e) (pm : (en1.toList.map keyZ).Perm ms) (nd : ms.Nodup) (few : ms.length < scanBound) (hf : tb1.fits en1.size = true) (hr : Ris tb1.place.toList) (hl : w.params.followText "set-order" = true ∨ tb1.led = true) {dummy : Bool} {R : Option Bool → Shared → Prop}
    (k : ∀ h', Heap.SameBut a s.heap h' → SetZ w h' a ms → R (some true) { s with heap := h' }) :
    wpAny (model P w) A (do
        storeSet a en1 tb1
        if (!dummy && tb1.tooFull) = true then do
            g (relayAll tb1 en1 (SetTable.grown en1.size)).2.2
            storeSet a (relayAll tb1 en1 (SetTable.grown en1.size)).1 (relayAll tb1 en1 (SetTable.grown en1.size)).2.1
            pure (some true)
          else pure (some true)) R E s := @NI.run _ (by exact NI.carry : NI.Carry (by
  have z1 : en1.size = ms.length := by rw [← pm.length_eq, List.length_map, Array.length_toList]
  refine wpAny_bind (wpAny_storeSet_of h1 h2 ?_ (fits_of_scanBound (by rw [z1]; exact few)))
  obtain ⟨o1, p1, p2, p3⟩ := putZ_at (en' := en1) (tb' := tb1) h1 h2
  have b1 := Heap.SameBut.update s.heap a (Obj.putSet en1 tb1)
  split
  · have q1 := relayAll_perm tb1 en1 (SetTable.grown en1.size)
    have q2 := relayAll_fits tb1 en1 (SetTable.grown en1.size)
    have q3 := relayAll_ris tb1 en1 (SetTable.grown en1.size)
    have q4 := relayAll_led tb1 en1 (SetTable.grown en1.size)
    generalize relayAll tb1 en1 (SetTable.grown en1.size) = T at q1 q2 q3 q4 ⊢
    obtain ⟨en2, tb2, gave⟩ := T
    dsimp only at q1 q2 q3 q4 ⊢
    have z2 : en2.size = ms.length := by rw [← z1, ← Array.length_toList, q1.length_eq, Array.length_toList]
    refine wpAny_bind (hg _ _ _ ?_)
    refine wpAny_bind (wpAny_storeSet_of p1 p2 ?_ (fits_of_scanBound (by rw [z2]; exact few)))
    obtain ⟨o2, r1, r2, r3⟩ := putZ_at (en' := en2) (tb' := tb2) p1 p2
    exact wpAny_pure (k _ (b1.trans (Heap.SameBut.update _ a _)) ⟨⟨o2, en2, _, tb2, r1, r3 (p3 hx), r2, fun e he => g1 e (q1.mem_iff.mp he), (q1.map keyZ).trans pm, q2, q3, hl.imp id fun y => by rw [q4]; exact y⟩, nd, few⟩)
  · exact wpAny_pure (k _ b1 ⟨⟨o1, en1, _, tb1, p1, p3 hx, p2, g1, pm, hf, hr, hl⟩, nd, few⟩)
))
theorem addZ_hashed {k : Str} {tk : Tok} {Q : Bool → Shared → Prop} (R : SetZ w s.heap a ls) (room : ls.length + 1 < scanBound)
    (q : ∀ h' b, Heap.SameBut a s.heap h' → SetZ w h' a (insZ ls k) → Q b { s with heap := h' }) : wpAny (model P w) A (setAddHashed a (.str k tk) ((strKind P w).hash k)) Q E s := @NI.run _ (by exact NI.carry : NI.Carry (by
  obtain ⟨⟨ob, en, ep, tb, h1, hx, h2, g, pm, hf, hr, hl⟩, nd, few⟩ := R
  have ik : (strKind P w).is k (.str k tk) = true := strZ_is k tk
  have sc : (Value.str k tk).scannable = true := rfl
  have el : ElemsOf (strKind P w) en.toList := entZ_all g
  have z : en.size = ls.length := by rw [← pm.length_eq, List.length_map, Array.length_toList]
  unfold setAddHashed setAddHashedIn
  refine wpAny_holding (wpAny_bind (wpAny_setState_of h1 h2 hf ?_))
  dsimp only
  rw [byScan_of sc (by rw [z]; exact few) el]
  simp only [↓reduceIte]
  unfold setAddByScan
  refine wpAny_bind (wpAny_bind (wpAny_rule (wpAny_bind (wpAny_setScan_of ik h1 h2 hf el ?_))))
  cases hfi : List.findIdx? (fun e => (strKind P w).is k e.2) en.toList with
  | some j =>
    dsimp only
    obtain ⟨hj, pj, _⟩ := List.findIdx?_eq_some_iff_getElem.mp hfi
    have km : k ∈ ls := pm.mem_iff.mp ((entZ_mem (P := P) g k).mpr ⟨_, List.getElem_mem hj, pj⟩)
    have e : insZ ls k = ls := if_pos km
    exact wpAny_pure (wpAny_pure (q s.heap _ (Heap.SameBut.refl a s.heap) (by rw [e]; exact ⟨⟨ob, en, ep, tb, h1, hx, h2, g, pm, hf, hr, hl⟩, nd, few⟩)))
  | none =>
    dsimp only
    have kn : k ∉ ls := fun y => by
      obtain ⟨e, he, c⟩ := (entZ_mem (P := P) g k).mp (pm.mem_iff.mpr y)
      have := List.findIdx?_eq_none_iff.mp hfi e he
      rw [c] at this
      cases this
    have ei : insZ ls k = ls ++ [k] := if_neg kn
    have hw : ∀ (b : Bool) {s₁ : Shared} {Q' : Unit → Shared → Prop}, Q' () s₁ → wpAny (model P w) A (match b with | true => rule "set.scan.the-table-gave-way" | false => pure ()) Q' E s₁ := fun b _ _ y => by
      cases b
      · exact wpAny_pure y
      · exact wpAny_rule y
    have q1 := layNew_perm tb en ((strKind P w).hash k) (.str k tk)
    have q2 := layNew_fits tb en ((strKind P w).hash k) (.str k tk)
    have q3 := layNew_ris tb en ((strKind P w).hash k) (.str k tk) hr
    have q4 := layNew_led tb en ((strKind P w).hash k) (.str k tk)
    generalize layNew tb en ((strKind P w).hash k) (.str k tk) = T at q1 q2 q3 q4 ⊢
    obtain ⟨en1, tb1, dummy, gave⟩ := T
    dsimp only at q1 q2 q3 q4 ⊢
    rw [Array.toList_push] at q1
    have g1 : ∀ e ∈ en1.toList, EntZ w e := fun e he => by
      rcases List.mem_append.mp (q1.mem_iff.mp he) with y | y
      · exact g e y
      · rw [List.mem_singleton.mp y]; exact ⟨k, tk, rfl, rfl⟩
    have pm1 : (en1.toList.map keyZ).Perm (insZ ls k) := by
      rw [ei]
      refine (q1.map keyZ).trans ?_
      rw [List.map_append]
      exact pm.append_right _
    have few1 : (insZ ls k).length < scanBound := Nat.lt_of_le_of_lt insZ_len room
    have hl1 : w.params.followText "set-order" = true ∨ tb1.led = true := hl.imp id fun y => by rw [q4]; exact y
    have fin : ∀ h', Heap.SameBut a s.heap h' → SetZ w h' a (insZ ls k) → Q true { s with heap := h' } := fun h' y r => q h' _ y r
    refine wpAny_bind (hw _ ?_)
    split
    · refine wpAny_bind ?_
      rw [hashByValue_scannable 8 sc]
      refine wpAny_pure (tailZ (fun b _ _ y => hw b y) h1 hx h2 g1 pm1 (insZ_nd nd) few1 ?_ ?_ ?_ fun h' y r => by dsimp only; exact wpAny_pure (fin h' y r))
      · split
        · exact q2
        · exact SetTable.fits_plain_off q2
      · split <;> exact q3
      · split <;> exact hl1
    · refine wpAny_bind (wpAny_pure ?_)
      simp only [↓reduceIte]
      exact tailZ (fun b _ _ y => hw b y) h1 hx h2 g1 pm1 (insZ_nd nd) few1 q2 q3 hl1 fun h' y r => by dsimp only; exact wpAny_pure (fin h' y r)
))
theorem addZ {k : Str} {tk : Tok} {Q : Bool → Shared → Prop} (R : SetZ w s.heap a ls) (room : ls.length + 1 < scanBound) (q : ∀ h' b, Heap.SameBut a s.heap h' → SetZ w h' a (insZ ls k) → Q b { s with heap := h', toks := s.toks + 1 }) : wpAny (model P w) A (setAdd a (.str k tk)) Q E s := @NI.run _ (by exact NI.carry : NI.Carry (by
  unfold setAdd
  exact wpAny_holding (wpAny_bind ((strKind P w).pyHash (strZ_is k tk) (addZ_hashed (s := { s with toks := s.toks + 1 }) R room q)))
))
end
end Wo
end
section
namespace Wo
open PySem PySem.Spec PyProof.Rows L2
end Wo
end
section
namespace Wo
open PySem PySem.Spec PyProof.Rows L2
def insA (ks : List Str) : List Str := ks.foldl insZ []
theorem insA_snoc {ks : List Str} {k : Str} : insA (ks ++ [k]) = insZ (insA ks) k := @NI.run _ (by exact NI.carry : NI.Carry (by
  unfold insA
  rw [List.foldl_append]
  rfl
))
theorem insF_len : ∀ {ks ls : List Str}, (ks.foldl insZ ls).length ≤ ls.length + ks.length
  | [], _ => Nat.le_refl _
  | k :: ks, ls => by
    have h1 := insF_len (ks := ks) (ls := insZ ls k)
    have h2 := insZ_len (ls := ls) (k := k)
    rw [List.foldl_cons, List.length_cons]
    omega
theorem insA_len {ks : List Str} : (insA ks).length ≤ ks.length := @NI.run _ (by exact NI.carry : NI.Carry (by
  have := insF_len (ks := ks) (ls := [])
  rw [List.length_nil, Nat.zero_add] at this
  exact this
))
section
variable {P : Program} {w : World} {A : Around} {E : Value → Shared → Prop} {s : Shared}
theorem fillZ {I : Addr} {fp wr : List Addr} {G : Array GenState → Array GenState → Prop} {n : Nat} {Pv : Nat → Value → Prop} {St : Nat → Shared → Prop} {R : Result → Shared → Prop}
    (W : WalksS P w A.in1 I fp wr G n Pv St) (S : Addr) (off : S ∉ fp) (ks : List Str) (hn : n = ks.length) (few : ks.length < scanBound) (hv : ∀ i v, Pv i v → ∃ k tk, ks[i]? = some k ∧ v = .str k tk)
    (h0 : Heap) (hS : h0.get? S = none) (hw : ∀ b ∈ wr, h0.get? b = none) :
    ∀ (k i : Nat) (s : Shared), n - i = k → i ≤ n → St i s → (∀ b o, h0.get? b = some o → s.heap.get? b = some o) → SetZ w s.heap S (insA (ks.take i)) →
      (∀ s', Moved (S :: wr) G s s' → (∀ b o, h0.get? b = some o → s'.heap.get? b = some o) → SetZ w s'.heap S (insA ks) → R (.ok (.ret .none)) s') →
      codeAny (model P w) A (.builtin "set.update.loop" ⟨[.ref S, .ref I], []⟩) R s := @NI.run _ (by exact NI.carry : NI.Carry (by
  have offw : S ∉ wr := fun z => off (W.sub _ z)
  have wide : ∀ b ∈ wr, b ∈ S :: wr := fun b z => List.mem_cons_of_mem _ z
  have keeps : ∀ {s s' : Shared}, Moved wr G s s' → (∀ b o, h0.get? b = some o → s.heap.get? b = some o) → ∀ b o, h0.get? b = some o → s'.heap.get? b = some o := fun hm q b o e => hm.heap b o (fun z => by rw [hw b z] at e; cases e) (q b o e)
  intro k
  induction k with
  | zero =>
    intro i s hki hi hst q hG hR
    obtain rfl : i = n := by omega
    refine codeAny_builtin F.entry_set_update_loop ?_
    rw [Around.under_plainId F.plain_set_update_loop _]
    show wpAny _ A.in1 (pyNext (.ref I) >>= _) _ _ s
    refine wpAny_bind (W.done s _ _ hst fun s' hm => ?_)
    show wpAny _ A.in1 (ret Value.none) _ _ s'
    rw [hn, List.take_length] at hG
    exact wpAny_pure (hR s' (hm.mono wide) (keeps hm q) (hG.at fun o e => hm.heap S o offw e))
  | succ k ih =>
    intro i s hki hi hst q hG hR
    have hlt : i < n := by omega
    refine codeAny_builtin F.entry_set_update_loop ?_
    rw [Around.under_plainId F.plain_set_update_loop _]
    show wpAny _ A.in1 (pyNext (.ref I) >>= _) _ _ s
    refine wpAny_bind (W.item i s _ _ hlt hst fun v s1 hP hst1 hm => ?_)
    obtain ⟨key, tk, hp, rfl⟩ := hv i v hP
    have q1 := keeps hm q
    have hG1 : SetZ w s1.heap S (insA (ks.take i)) := hG.at fun o e => hm.heap S o offw e
    have et : ks.take (i + 1) = ks.take i ++ [key] := by rw [List.take_succ, hp]; rfl
    show wpAny _ A.in1 (holding [Value.str key tk] (setAdd S (.str key tk)) >>= _) _ _ s1
    refine wpAny_bind (wpAny_holding (addZ hG1 ?_ fun h2 b sb hG2 => ?_))
    · have := insA_len (ks := ks.take i)
      rw [List.length_take] at this
      omega
    rw [← insA_snoc, ← et] at hG2
    have q2 : ∀ b o, h0.get? b = some o → h2.get? b = some o := fun b o e => (sb.2 b (fun z => by rw [z, hS] at e; cases e)).trans (q1 b o e)
    refine wpAny_pure ⟨plainId_quiet F.plain_set_update_loop _, ih (i + 1) _ (by omega) hlt (W.frame _ s1 _ _ hst1 (Nat.le_add_right _ _) fun b hb o e => (sb.2 b fun z => off (z ▸ hb)).trans e) q2 hG2 fun s3 hm3 q3 hG3 => ?_⟩
    exact hR s3 (Moved.trans W.gtrans ((hm.mono wide).then_heap (Nat.le_add_right _ _) fun b o hb e => (sb.2 b fun z => hb (z ▸ List.mem_cons_self)).trans e) hm3) q3 hG3
))
theorem setZ_none {h : Heap} {a : Addr} {led : Bool} (hl : w.params.followText "set-order" = true ∨ led = true) (h1 : h.get? a = some (emptySet led)) : SetZ w h a [] :=
  ⟨⟨_, #[], 0, _, h1, ⟨rfl, rfl, rfl⟩, rfl, (fun e he => by cases he), .nil, rfl, .nil, hl⟩, .nil, by decide⟩
theorem code_set_led1 (a : Value) {Q₁ : Value → Shared → Prop} (h : Q₁ (.ref s.heap.objs.size) { s with heap := s.heap.push (emptySet (!w.params.followText "set-order")) }) :
    codeAny (model P w) A (.call (.builtin "set.__new__") ⟨[.type "set", a], []⟩) (wants Q₁ E) s := @NI.run _ (by exact NI.carry : NI.Carry (by
  refine codeAny_of_tree ?_
  show wpAny _ A.in1 (do checkBuiltinCall "set.__new__" ⟨[.type "set", a], []⟩; again (.builtin "set.__new__" ⟨[.type "set", a], []⟩)) _ _ s
  refine wpAny_bind (wpAny_of_eq (F.newCall_set_1 a) (wpAny_pure ⟨plainId_quiet F.plain_set_new _, codeAny_builtin F.entry_set_new ?_⟩))
  rw [Around.under_plainId F.plain_set_new _]
  unfold Builtin.«set.__new__» Builtin.Frozenset.newClass
  have hsub := sub_set_self
  obtain ⟨hp, g, d, tk, os⟩ := s
  dsimp only
  wp_walk
  refine wpAny_askSetting (wpAny_pure ?_)
  dsimp only
  simp only [newObj]
  exact wpAny_bind (wpAny_alloc (wpAny_pure (wpAny_pure h)))
))
end
end Wo
end
section
namespace Wo
open PySem PySem.Spec PyProof.Rows L2
section
variable {P : Program} {w : World} {A : Around} {E : Value → Shared → Prop} {s : Shared}
theorem strsAt : ∀ {us : List Value} {ks : List Str}, StrsAre us ks → ∀ {i : Nat} {v : Value}, us[i]? = some v → ∃ k tk, ks[i]? = some k ∧ v = .str k tk
  | _, _, .nil, _, _, h => by cases h
  | _, _, .cons k tk _, 0, _, h => ⟨k, tk, rfl, (Option.some.inj h).symm⟩
  | _, _, .cons _ _ r, i + 1, _, h => strsAt r (i := i) h
def SetsZ (w : World) (s : Shared) (ks : List Str) (s' : Shared) : Prop :=
  ∃ h' tk, s' = { s with heap := h', toks := tk } ∧ SetZ w h' s.heap.objs.size (insA ks) ∧ ∀ b o, s.heap.get? b = some o → h'.get? b = some o
end
end Wo
end
section
namespace Wo
open PySem PySem.Spec PyProof.Rows L2
end Wo
end
section
namespace Wo
open PySem PySem.Spec PyProof.Rows L2
def ltS (x y : Str) : Bool := decide (x.cps.toList < y.cps.toList)
section
variable {x y z : Str}
theorem ltS_irr : ltS x x = false := decide_eq_false (List.lt_irrefl _)
theorem ltS_tr (h1 : ltS x y = true) (h2 : ltS y z = true) : ltS x z = true := decide_eq_true (List.lt_trans (of_decide_eq_true h1) (of_decide_eq_true h2))
theorem str_ext (h : x.cps.toList = y.cps.toList) : x = y := @NI.run _ (by exact NI.carry : NI.Carry (by
  cases x
  cases y
  have := Array.toList_inj.mp h
  subst this
  rfl
))
theorem ltS_tri (h1 : ltS x y = false) (h2 : ltS y x = false) : x = y := str_ext (List.le_antisymm (List.not_lt.mp (of_decide_eq_false h2)) (List.not_lt.mp (of_decide_eq_false h1)))
theorem ltS_asym (h : ltS x y = true) : ltS y x = false := @NI.run _ (by exact NI.carry : NI.Carry (by
  cases h2 : ltS y x with
  | false => rfl
  | true => exact absurd (ltS_tr h h2) (by rw [ltS_irr]; exact Bool.false_ne_true)
))
theorem leS_tr (h1 : ltS y x = false) (h2 : ltS z y = false) : ltS z x = false := @NI.run _ (by exact NI.carry : NI.Carry (by
  cases h : ltS z x with
  | false => rfl
  | true =>
    by_cases e : x = y
    · subst e
      rw [h] at h2
      cases h2
    · have h3 : ltS x y = true := by
        cases h3 : ltS x y with
        | true => rfl
        | false => exact absurd (ltS_tri h3 h1) e
      rw [ltS_tr h h3] at h2
      cases h2
))
end
theorem risingS_eq : ∀ {p : Str} {l : List Str}, risingS p l = true ↔ (p :: l).Pairwise fun a b => ltS b a = false
  | p, [] => ⟨fun _ => List.pairwise_singleton _ _, fun _ => rfl⟩
  | p, x :: r => by
    have ih := risingS_eq (p := x) (l := r)
    show (!ltCps x.cps.toList p.cps.toList && risingS x r) = true ↔ _
    have e : ltCps x.cps.toList p.cps.toList = ltS x p := ltCps_eq _ _
    rw [e, Bool.and_eq_true, Bool.not_eq_true', ih]
    constructor
    · rintro ⟨h1, h2⟩
      refine List.pairwise_cons.mpr ⟨fun b hb => ?_, h2⟩
      rcases List.mem_cons.mp hb with rfl | hb
      · exact h1
      · exact leS_tr h1 ((List.pairwise_cons.mp h2).1 b hb)
    · intro h
      obtain ⟨h1, h2⟩ := List.pairwise_cons.mp h
      exact ⟨h1 x List.mem_cons_self, h2⟩
theorem sortedS_iff {l : List Str} : sortedS l = true ↔ l.Pairwise fun a b => ltS b a = false := @NI.run _ (by exact NI.carry : NI.Carry (by
  cases l with
  | nil => exact ⟨fun _ => .nil, fun _ => rfl⟩
  | cons x r => exact risingS_eq
))
theorem sortedS_uniq : ∀ {a b : List Str}, sortedS a = true → sortedS b = true → a.Perm b → a = b
  | [], b, _, _, h => (List.nil_perm.mp h).symm
  | x :: a, [], _, _, h => by
    have := h.length_eq
    simp at this
  | x :: a, y :: b, ha, hb, h => by
    have ha := sortedS_iff.mp ha
    have hb := sortedS_iff.mp hb
    obtain ⟨a1, a2⟩ := List.pairwise_cons.mp ha
    obtain ⟨b1, b2⟩ := List.pairwise_cons.mp hb
    have e : x = y := by
      rcases List.mem_cons.mp (h.mem_iff.mp (List.mem_cons_self (a := x))) with e | hx
      · exact e
      · rcases List.mem_cons.mp (h.mem_iff.mpr (List.mem_cons_self (a := y))) with e | hy
        · exact e.symm
        · exact ltS_tri (b1 x hx |> fun z => z) (a1 y hy)
    subst e
    rw [sortedS_uniq (sortedS_iff.mpr a2) (sortedS_iff.mpr b2) ((List.perm_cons _).mp h)]
end Wo
end
section
namespace Wo
open PySem PySem.Spec PyProof.Rows L2 PySem.SeqAt Srt SrtO
def RX : Rl (List Str) := fun H v ns => ∃ p, v = .ref p ∧ H p = some (.tup (ns.map V.str)) ∧ ns.length ≤ sizeLine
instance : Up RX := ⟨fun e ⟨p, a, b, c⟩ => ⟨p, a, e _ _ b, c⟩⟩
theorem RX.rt {K : PySem.W.Frag} {H : Hp} {v : V} {ns : List Str} (h : RX H v ns) : RT K RS H v ns := @NI.run _ (by exact NI.carry : NI.Carry (by
  obtain ⟨p, rfl, e, z⟩ := h
  exact ⟨p, _, rfl, .inl (.inl e), RAll.strs, by rw [List.length_map]; exact z⟩
))
theorem RX.mk {H : Hp} {p : Addr} {ns : List Str} (z : ns.length ≤ sizeLine) : RX (upd H p (.tup (ns.map V.str))) (.ref p) ns := ⟨p, rfl, upd_same, z⟩
end Wo
end
section
namespace Wo
open PySem PySem.Spec PyProof.Rows L2 PySem.SeqAt
section
variable {prog : Program} {w : World} {A : Around} {E : Value → Shared → Prop} {s : Shared}
def HeadT (h : Heap) (v : Value) (ns : List Int) : Prop := ∃ a xs x r, v = .ref a ∧ IsTup h a xs ∧ xs.toList = x :: r ∧ TS.TupInts h x ns
theorem HeadT.keeps {h h' : Heap} {v : Value} {ns : List Int} (x : HeadT h v ns) (k : ∀ b o, h.get? b = some o → o.cls = .type "tuple" → h'.get? b = some o) : HeadT h' v ns := @NI.run _ (by exact NI.carry : NI.Carry (by
  obtain ⟨a, xs, y, r, e, ⟨o, ho, hc, hd⟩, ex, t⟩ := x
  exact ⟨a, xs, y, r, e, ⟨o, k _ _ ho hc, hc, hd⟩, ex, t.keeps k⟩
))
end
end Wo
end
section
namespace Wo
open PySem PySem.Spec PyProof.Rows L2
open PySem.W (Frag)
end Wo
end
section
namespace Wo
open PySem PySem.Spec PyProof.Rows L2
section
variable {X : Cx} {W : WX} {C g : Addr} {sp : Sp} {k j : Nat} {o e : Expr} {es : List Expr} {m : Str} {apos pos : Pos} {ta : TE} {t : TA}
def tMethN (C : Addr) (sp : Sp) (W : WX) (ta : TE) (t : TA) : TE := fun σ H Q => ta σ H fun x H1 => Own C H1 x ∧ t σ H1 fun ws H2 => sp (x :: ws) H2 Q (atW W σ)
theorem rd_methN {σ : L2.St} {H : Hp} {Q : VK} (q : ta σ H fun x H1 => Own C H1 x ∧ t σ H1 fun ws H2 => sp (x :: ws) H2 Q (atW W σ)) : tMethN C sp W ta t σ H Q := q
theorem pe_methN {pl : Sem Bool} (F : FnR X.prog X.w X.K X.mg X.base (CXW X.prog X.w) k g sp) (O : OwnM X.K C m g) (c : SlX.SCls X.K C) (hr : Room j X.A) (tk : Takes X W) (he : PE X o ta) (ha : PA X (e :: es) t) (hk : k ≤ j := by decide)
    (hst : starEach (e :: es) X.env = (false, eval e X.env) :: starEach es X.env := by rfl) (hpl : (backTo pos (starEach es X.env)).any (·.1) = false := by rfl)
    (ht : eval (.Call (.Attribute o m apos) (e :: es) [] pos) X.env = (do
      let ov ← eval o X.env
      standAt apos.atName
      let (f, first) ← holding [ov] (getMethod ov m pl)
      callWith pos f first (backTo pos (starEach (e :: es) X.env)) (backToKw pos (keywordEach [] X.env))) := by rfl) :
    PE X (.Call (.Attribute o m apos) (e :: es) [] pos) (tMethN C sp W ta t) := @NI.run _ (by exact NI.carry : NI.Carry (by
  refine ⟨fun pins s σ H Q I h => ?_⟩
  refine PySem.W.methodCall_KW (pl := pl) (thn (he.run pins s σ H _ I h) fun u s1 ⟨x, H1, I1, rx, o1, q⟩ => ?_) ht
  obtain ⟨p1, d1, vs1, rfl, s1'⟩ := o1
  obtain rfl : u = Value.ref p1 := rx
  refine SlX.getmethsl_ok I1 s1' c ⟨O.at_, O.fn, O.kp⟩ ?_
  refine PySem.W.callWith_K (first := [.ref p1]) (h₀ := X.base) I.ok.mod.kin O.kp (thn (ha.run pos pins s1 σ H1 _ I1 q) fun us s2 ⟨ws, H2, I2, r, q2⟩ => ⟨I2.kIn, ?_⟩) hst hpl
  exact run_W (us := .ref p1 :: us) (vs := .ref p1 :: ws) F (hr.mono hk) tk I2 (.cons rfl r) q2
))
end
end Wo
end
section
namespace Wo
open PySem PySem.Spec PyProof.Rows L2
section
variable {X : Cx} {W : WX} {C g : Addr} {sp : Sp} {k j : Nat} {o e : Expr} {es : List Expr} {m : Str} {apos pos : Pos} {ta : TE} {t : TA}
def tMethN0 (C : Addr) (sp : Sp) (W : WX) (ta : TE) : TE := fun σ H Q => ta σ H fun x H1 => Own C H1 x ∧ sp [x] H1 Q (atW W σ)
theorem rd_methN0 {σ : L2.St} {H : Hp} {Q : VK} (q : ta σ H fun x H1 => Own C H1 x ∧ sp [x] H1 Q (atW W σ)) : tMethN0 C sp W ta σ H Q := q
end
end Wo
end
section
namespace Wo
open PySem PySem.Spec PyProof.Rows L2
def Itdt (d : Addr) (o : Obj) (kvs : List (List Key × V)) : It :=
  ⟨fun i H => H d = some (.frz o (.dT kvs)) ∧ i < kvs.length, fun i H x H' => H' = H ∧ ∃ k, kvs[i]? = some (k, x), fun i H => H d = some (.frz o (.dT kvs)) ∧ kvs.length ≤ i⟩
def iValsT (td : TE) : TI := fun σ H R => td σ H fun x H1 => ∃ d o kvs, x = .ref d ∧ H1 d = some (.frz o (.dT kvs)) ∧ R (Itdt d o kvs) H1
section
variable {K : PySem.W.Frag} {α : Type} {R : Rl α} [Up R] {H H1 : Hp} {as : List α} {g : TG} {te : TE} {vs : List Nat} {σ : L2.St} {Q : VK}
theorem rd_lcVals {td : TE} (q : td σ H fun x H1 => ∃ d o kvs, x = .ref d ∧ H1 d = some (.frz o (.dT kvs)) ∧ LcK (Itdt d o kvs) H1 g te vs σ Q) : tLc (iValsT td) g tYes (tHid te) vs σ H Q := q
end
theorem rd_dget2 {td ty tx : TE} {σ : L2.St} {H : Hp} {Q : VK} (q : td σ H fun x H1 => ∃ a, x = .ref a ∧ IsD H1 a ∧ ty σ H1 fun y H2 => tx σ H2 fun z H3 => ∃ o, DGet H3 a y o ∧ Q (o.getD z) H3) : tDGet2 td ty tx σ H Q := q
def DW {α : Type} (R : Rl α) (H : Hp) (d : Addr) (kws : List (List Int × α)) : Prop := ∃ kvs : List (List Key × V), H d = some (.dT kvs) ∧ Paired (fun (kv : List Key × V) (c : List Int × α) => kv.1 = wk c.1 ∧ R (hd d H) kv.2 c.2) kvs kws
section
variable {α : Type} {R : Rl α} {H H' : Hp} {d : Addr} {kws : List (List Int × α)} {w : List Int} {v y : V} {a : α}
def getQ (kws : List (List Int × α)) (w : List Int) : Option α := (kws.find? fun c => decide (c.1 = w)).map (·.2)
def putQ (kws : List (List Int × α)) (w : List Int) (a : α) : List (List Int × α) := if (kws.any fun c => decide (c.1 = w)) = true then kws.map (fun c => if c.1 = w then (w, a) else c) else kws ++ [(w, a)]
theorem hd_of_upd {u : HO} : hd d (upd H d u) = hd d H := @NI.run _ (by exact NI.carry : NI.Carry (by
  funext b
  unfold hd
  by_cases hb : b = d
  · rw [if_pos hb, if_pos hb]
  · rw [if_neg hb, if_neg hb, upd_ne hb]
))
theorem DW.up [Up R] (e : Same H H') (h : DW R H d kws) : DW R H' d kws := @NI.run _ (by exact NI.carry : NI.Carry (by
  obtain ⟨kvs, hd', hp⟩ := h
  exact ⟨kvs, e _ _ hd', Paired.mono (fun _ _ q => ⟨q.1, Up.up (hd_mono e) q.2⟩) hp⟩
))
theorem DW.new (h : H d = some (.dT [])) : DW R H d [] := ⟨[], h, .nil⟩
theorem pair_get {G : V → α → Prop} : ∀ {kvs : List (List Key × V)} {kws : List (List Int × α)}, Paired (fun (kv : List Key × V) (c : List Int × α) => kv.1 = wk c.1 ∧ G kv.2 c.2) kvs kws → (valV kvs (wk w) = none ∧ getQ kws w = none) ∨ ∃ v a, valV kvs (wk w) = some v ∧ getQ kws w = some a ∧ G v a
  | _, _, .nil => .inl ⟨rfl, rfl⟩
  | kv :: kvs, c :: kws, .cons h t => by
    by_cases e : c.1 = w
    · refine .inr ⟨kv.2, c.2, valV_pos (h.1.trans (by rw [e])), ?_, h.2⟩
      unfold getQ
      rw [List.find?_cons_of_pos (by simpa using e)]
      rfl
    · have e2 : ¬ kv.1 = wk w := fun z => e (wk_inj (h.1.symm.trans z))
      have g : getQ (c :: kws) w = getQ kws w := by
        unfold getQ
        rw [List.find?_cons_of_neg (by simpa using e)]
      rw [valV_neg e2, g]
      exact pair_get t
theorem pair_any {G : V → α → Prop} : ∀ {kvs : List (List Key × V)} {kws : List (List Int × α)}, Paired (fun (kv : List Key × V) (c : List Int × α) => kv.1 = wk c.1 ∧ G kv.2 c.2) kvs kws → (kvs.any fun kv => decide (kv.1 = wk w)) = kws.any fun c => decide (c.1 = w)
  | _, _, .nil => rfl
  | kv :: kvs, c :: kws, .cons h t => by
    rw [List.any_cons, List.any_cons, pair_any t, h.1]
    congr 1
    by_cases e : c.1 = w
    · rw [e]
      simp
    · rw [decide_eq_false e, decide_eq_false fun z => e (wk_inj z)]
theorem pair_map {G : V → α → Prop} (hG : G v a) : ∀ {kvs : List (List Key × V)} {kws : List (List Int × α)}, Paired (fun (kv : List Key × V) (c : List Int × α) => kv.1 = wk c.1 ∧ G kv.2 c.2) kvs kws → Paired (fun (kv : List Key × V) (c : List Int × α) => kv.1 = wk c.1 ∧ G kv.2 c.2) (kvs.map fun kv => if kv.1 = wk w then (kv.1, v) else kv) (kws.map fun c => if c.1 = w then (w, a) else c)
  | _, _, .nil => .nil
  | kv :: kvs, c :: kws, .cons h t => by
    refine .cons ?_ (pair_map hG t)
    by_cases e : c.1 = w
    · have e2 : kv.1 = wk w := h.1.trans (by rw [e])
      dsimp only
      rw [if_pos e, if_pos e2]
      exact ⟨e2, hG⟩
    · dsimp only
      rw [if_neg e, if_neg fun z => e (wk_inj (h.1.symm.trans z))]
      exact h
theorem pair_snoc {G : V → α → Prop} {k : List Key} (hk : k = wk w) (hG : G v a) : ∀ {kvs : List (List Key × V)} {kws : List (List Int × α)}, Paired (fun (kv : List Key × V) (c : List Int × α) => kv.1 = wk c.1 ∧ G kv.2 c.2) kvs kws → Paired (fun (kv : List Key × V) (c : List Int × α) => kv.1 = wk c.1 ∧ G kv.2 c.2) (kvs ++ [(k, v)]) (kws ++ [(w, a)])
  | _, _, .nil => .cons ⟨hk, hG⟩ .nil
  | _ :: _, _ :: _, .cons h t => .cons h (pair_snoc hk hG t)
theorem DW.get (h : DW R H d kws) (hy : RW H y w) : ∃ o, DGet H d y o ∧ ((o = none ∧ getQ kws w = none) ∨ ∃ v a, o = some v ∧ getQ kws w = some a ∧ R (hd d H) v a) := @NI.run _ (by exact NI.carry : NI.Carry (by
  obtain ⟨kvs, hd', hp⟩ := h
  obtain ⟨b, rfl, hb, _⟩ := hy
  exact ⟨_, DGet.t hd' (by rw [wk_kV]; exact hb), pair_get hp⟩
))
theorem DW.put (h : DW R H d kws) (hy : RW H y w) (hv : R (hd d H) v a) (hl : kws.length < sizeLine) : ∃ H2, DPut H d y v H2 ∧ DW R H2 d (putQ kws w a) ∧ ∃ u, H2 = upd H d u := @NI.run _ (by exact NI.carry : NI.Carry (by
  obtain ⟨kvs, hd', hp⟩ := h
  obtain ⟨b, rfl, hb, _⟩ := hy
  have hlen : kvs.length = kws.length := Paired.length hp
  refine ⟨_, DPut.t hd' (by rw [wk_kV]; exact hb) (by omega), ⟨_, upd_same, ?_⟩, _, rfl⟩
  rw [hd_of_upd]
  unfold putK putQ
  rw [pair_any hp]
  by_cases e : (kws.any fun c => decide (c.1 = w)) = true
  · rw [if_pos e, if_pos e]
    exact pair_map (G := fun v a => R (hd d H) v a) hv hp
  · rw [if_neg e, if_neg e]
    exact pair_snoc (G := fun v a => R (hd d H) v a) rfl hv hp
))
end
end Wo
end
section
namespace Wo
open PySem PySem.Spec PyProof.Rows L2
open Sem (wp)
structure ZipC (z TI TO i1 i2 l1 l2 S : Addr) (i : Nat) (h : Heap) : Prop where
  ti : IsPair h TI (.ref i1) (.ref i2)
  it1 : h.IsListIter i1 l1 i
  it2 : h.IsListIter i2 l2 i
  tO : ∃ o, h.get? TO = some o
  z : (IsZip h z TI TO .none ∧ ∃ a b, IsPair h TO a b) ∨ ∃ T f oT, IsZipHeld h z TI TO T f ∧ h.get? T = some oT ∧ T ≠ z ∧ T ≠ i1 ∧ T ≠ i2 ∧ T ≠ S
section
variable {z TI TO i1 i2 l1 l2 S : Addr}
theorem ZipC.keep {i : Nat} {h h' : Heap} (hS : S ∉ [z, TI, TO, i1, i2]) (c : ZipC z TI TO i1 i2 l1 l2 S i h) (k : ∀ b o, b ≠ S → h.get? b = some o → h'.get? b = some o) : ZipC z TI TO i1 i2 l1 l2 S i h' := @NI.run _ (by exact NI.carry : NI.Carry (by
  simp only [List.mem_cons, List.not_mem_nil, or_false, not_or] at hS
  obtain ⟨nz, nTI, nTO, n1, n2⟩ := hS
  refine ⟨k _ _ (Ne.symm nTI) c.ti, c.it1.at fun o e => k _ o (Ne.symm n1) e, c.it2.at fun o e => k _ o (Ne.symm n2) e, let ⟨o, e⟩ := c.tO; ⟨o, k _ o (Ne.symm nTO) e⟩, ?_⟩
  rcases c.z with ⟨hz, a, b, hTO⟩ | ⟨T, f, oT, hz, hT, r1, r2, r3, r4⟩
  · exact .inl ⟨k _ _ (Ne.symm nz) hz, a, b, k _ _ (Ne.symm nTO) hTO⟩
  · exact .inr ⟨T, f, oT, k _ _ (Ne.symm nz) hz, k _ _ r4 hT, r1, r2, r3, r4⟩
))
variable {X : Cx} {pins : List (Addr × Obj)} {σ : L2.St}
end
end Wo
end
section
namespace Wo
open PySem PySem.Spec PyProof.Rows L2
end Wo
end
section
namespace Wo
open PySem PySem.Spec PyProof.Rows L2
section
variable {X : Cx} {K : PySem.W.Frag}
def rIxE (K : PySem.W.Frag) : R2 := fun x y H Q => rIxL K x y H Q ∨ rIxT K x y H Q
theorem kIxE (K : PySem.W.Frag) (h : X.K = K := by rfl) : IxR X (rIxE K) := @NI.run _ (by exact NI.carry : NI.Carry (by
  subst h
  intro value slice pins s σ H x y v u Q I rx ry h hs
  rcases h with h | h
  · exact ix_list value slice pins s σ H x y v u Q I rx ry h hs
  · exact ix_tup value slice pins s σ H x y v u Q I rx ry h hs
))
end
end Wo
end
section
namespace Wo
open PySem PySem.Spec PyProof.Rows L2
end Wo
end
section
namespace Wo
open PySem PySem.Spec PyProof.Rows L2 PySem.SeqAt
section
variable {prog : Program} {w : World} {A : Around} {E : Value → Shared → Prop} {s : Shared}
theorem add_listsP {l b : Addr} {vs ws : List Value} {Q : Value → Shared → Prop} (hl : s.heap.IsList l vs.toArray) (hb : s.heap.IsList b ws.toArray)
    (h : Q (.ref s.heap.objs.size) { s with heap := s.heap.push { cls := .type "list", data := .seq (vs ++ ws).toArray } }) (hsz : vs.length + ws.length ≤ sizeLine) :
    wpAny (model prog w) A (binaryOp .Add (.ref l) (.ref b)) Q E s := @NI.run _ (by exact NI.carry : NI.Carry (by
  obtain ⟨⟨cls, dd, data, sl⟩, ho, hc, n, hd⟩ := id hl
  obtain ⟨⟨cls2, dd2, data2, sl2⟩, ho2, hc2, n2, hd2⟩ := id hb
  simp only at hc hd hc2 hd2
  subst hc hd hc2 hd2
  have e : vs.toArray ++ ws.toArray = (vs ++ ws).toArray := by simp
  refine concat_meets ⟨_, ho, rfl⟩ ⟨_, ho2, rfl⟩ noFill_list_add seq_list_add PySem.F.slot_list_add PySem.F.entry_list_add (PySem.F.args_list_add_2 _ _) (list_addW l b vs.toArray ws.toArray n n2 dd dd2 sl sl2 (by simpa using hsz)) ⟨ho, ho2, ?_⟩
  rw [e]
  exact h
))
variable {R : Result → Shared → Prop} {I : Addr} {fp wr : List Addr} {n : Nat} {P : Nat → Value → Prop} {St : Nat → Heap → Prop}
end
def RO : Rl (Option Str) := fun _ v o => match o with
  | some z => v = .str z
  | none => v = .non
instance : Up RO := ⟨fun _ h => h⟩
def srtS (l : List Str) : List Str := l.mergeSort fun a b => !ltS b a
theorem srtS_perm {l : List Str} : (srtS l).Perm l := List.mergeSort_perm _ _
theorem srtS_srt {l : List Str} : sortedS (srtS l) = true := @NI.run _ (by exact NI.carry : NI.Carry (by
  refine sortedS_iff.mpr ?_
  have := List.pairwise_mergeSort (le := fun a b : Str => !ltS b a) (fun a b c h1 h2 => ?_) (fun a b => ?_) l
  · exact this.imp fun {a b} h => by
      have h : (!ltS b a) = true := h
      rw [Bool.not_eq_true'] at h
      exact h
  · rw [Bool.not_eq_true'] at h1 h2 ⊢
    exact leS_tr h1 h2
  · cases h : ltS b a with
    | false => rfl
    | true =>
      rw [ltS_asym h]
      rfl
))
theorem srtS_of {a l : List Str} (p : a.Perm l) (s : sortedS a = true) : a = srtS l := sortedS_uniq s srtS_srt (p.trans srtS_perm.symm)
end Wo
end
section
namespace Wo
open PySem PySem.Spec PyProof.Rows L2
end Wo
end
section
namespace Wo
open PySem PySem.Spec PyProof.Rows L2 Builtin
def ReprB (prog : Program) (w : World) (N d : Nat) (h0 : Heap) (x : Value) : Prop :=
  ∀ (base : Nat), base + N ≤ sizeLine → ∀ (A : Around) (E : Value → Shared → Prop) (s : Shared) (Q : Str → Shared → Prop), A.units + d < cLine → (∀ b o, h0.get? b = some o → s.heap.get? b = some o) →
    (∀ t tk, t.length ≤ N → Q t { s with toks := tk }) → wpAny (model prog w) A (pyReprUnder base x) Q E s
section
variable {prog : Program} {w : World} {A : Around} {E : Value → Shared → Prop} {s : Shared} {N d : Nat} {h0 : Heap}
theorem tupFoldB (hu : A.units + d < cLine) : ∀ (l : List Value) (acc : Array Str) (n : Nat) (s : Shared) (Q : (Array Str × Nat) → Shared → Prop), (∀ x ∈ l, ReprB prog w N d h0 x) → n + l.length * (N + 2) ≤ sizeLine → (∀ b o, h0.get? b = some o → s.heap.get? b = some o) →
    (∀ (ts : List Str) (m tk : Nat), ts.length = l.length → (∀ t ∈ ts, t.length ≤ N) → Q ⟨acc ++ ts.toArray, m⟩ { s with toks := tk }) → wpAny (model prog w) A (forIn l (⟨acc, n⟩ : (Array Str × Nat)) tupBody) Q E s := @NI.run _ (by exact NI.carry : NI.Carry (by
  intro l
  induction l with
  | nil =>
    intro acc n s Q hT hn hk h
    have h1 := h [] n s.toks rfl (fun t ht => nomatch ht)
    simp only [List.forIn_nil]
    exact wpAny_pure (by simpa using h1)
  | cons x l ih =>
    intro acc n s Q hT hn hk h
    have e : (x :: l).length * (N + 2) = l.length * (N + 2) + (N + 2) := by rw [List.length_cons, Nat.add_mul, Nat.one_mul]
    rw [List.forIn_cons]
    refine wpAny_bind (wpAny_bind (hT x List.mem_cons_self (n + 1) (by omega) _ _ _ _ hu hk fun t tk ht => wpAny_pure ?_))
    refine ih (acc.push t) (n + (t.length + 2)) _ Q (fun y hy => hT y (List.mem_cons_of_mem _ hy)) (by omega) hk fun ts m tk' h1 h2 => ?_
    have h3 := h (t :: ts) m tk' (by rw [List.length_cons, List.length_cons, h1]) (fun u hu => by
      rcases List.mem_cons.mp hu with rfl | hu
      · exact ht
      · exact h2 u hu)
    simpa using h3
))
theorem piledB : ∀ {ts : List Str}, (∀ t ∈ ts, t.length ≤ N) → piled ts ≤ ts.length * (N + 2)
  | [], _ => Nat.zero_le _
  | t :: ts, h => by
    have ih := piledB (ts := ts) fun u hu => h u (List.mem_cons_of_mem _ hu)
    have := h t List.mem_cons_self
    rw [piled_cons, List.length_cons, Nat.add_mul, Nat.one_mul]
    omega
theorem joinB {ts : List Str} (h : ∀ t ∈ ts, t.length ≤ N) : (Str.join ", " ts).length ≤ ts.length * (N + 2) := @NI.run _ (by exact NI.carry : NI.Carry (by
  by_cases hn : ts = []
  · subst hn
    exact Nat.zero_le _
  · have := join_length_add ts hn
    have := piledB h
    omega
))
theorem closeB (b : Bool) : (((if b = true then ",)" else ")" : String) : Str)).length ≤ 2 := @NI.run _ (by exact NI.carry : NI.Carry (by cases b <;> decide
))
theorem tupRestB {a : Addr} {o : Obj} {items : Array Value} {n b : Nat} {Q : Fin → Shared → Prop} (hu : A.units + d < cLine) (hk : ∀ b o, h0.get? b = some o → s.heap.get? b = some o) (ha : s.heap.get? a = some o) (hd : o.data = .seq items n)
    (hT : ∀ x ∈ items.toList, ReprB prog w N d h0 x) (h : ∀ t u tk, t.length ≤ items.size * (N + 2) + 5 → Q (.done (.ret (.str t u))) { s with toks := tk }) (hsz : b + (items.size * (N + 2) + 5) ≤ sizeLine) :
    wpAny (model prog w) A (tupleReprRest b (.ref a)) Q E s := @NI.run _ (by exact NI.carry : NI.Carry (by
  unfold tupleReprRest Builtin.Tuple.tupleItemsOf
  refine wpAny_bind (wpAny_bind (wpAny_seqItems ha hd (wpAny_pure ?_)))
  rw [← Array.forIn_toList]
  refine wpAny_bind (tupFoldB hu _ _ _ _ _ hT (by rw [Array.length_toList]; omega) hk fun ts m tk h1 h2 => ?_)
  have h1 : ts.length = items.size := h1.trans Array.length_toList
  have hj := joinB h2
  rw [h1] at hj
  have hl : (("(" : Str) ++ Str.join ", " ((#[] : Array Str) ++ ts.toArray).toList ++ (if (items.size == 1) = true then ",)" else ")" : String)).length ≤ items.size * (N + 2) + 5 := by
    rw [strLen_append, strLen_append]
    have e1 : ((("(" : String) : Str)).length = 1 := rfl
    have e2 := closeB (items.size == 1)
    have e3 : ((#[] : Array Str) ++ ts.toArray).toList = ts := by simp
    rw [e1, e3]
    omega
  refine wpAny_bind (wpAny_mkStr (wpAny_pure ?_) (Nat.le_trans hl (by omega)))
  exact h _ _ _ hl
))
theorem tup_atB {a : Addr} {o : Obj} {items : Array Value} {n b : Nat} {Q : Fin → Shared → Prop} (hu : A.units + d < cLine) (hk : ∀ b o, h0.get? b = some o → s.heap.get? b = some o) (ha : s.heap.get? a = some o) (hd : o.data = .seq items n)
    (hT : ∀ x ∈ items.toList, ReprB prog w N d h0 x) (h : ∀ t u tk, t.length ≤ items.size * (N + 2) + 5 → Q (.done (.ret (.str t u))) { s with toks := tk }) (hsz : b + (items.size * (N + 2) + 5) ≤ sizeLine) :
    wpAny (model prog w) A (Builtin.tupleReprAt b ⟨[.ref a], []⟩) Q E s := @NI.run _ (by exact NI.carry : NI.Carry (by
  rw [tuple_repr_tree, tupleReprUnderWay_eq]
  refine wpAny_bind (wpAny_bind (wpAny_stack_any fun st => wpAny_pure ?_))
  by_cases hb : st.tail.any (tupGuardF (.ref a)) = true
  · rw [if_pos hb]
    refine wpAny_bind (wpAny_rule (wpAny_bind (wpAny_mkStr (wpAny_pure (h _ _ _ ?_)) (by decide))))
    show ((("(...)" : String) : Str)).length ≤ _
    have : ((("(...)" : String) : Str)).length = 5 := by decide
    omega
  · rw [if_neg hb]
    exact tupRestB hu hk ha hd hT h hsz
))
theorem ReprB.tup {a : Addr} {o : Obj} {items : Array Value} {n M : Nat} (ha : h0.get? a = some o) (hc : o.cls = .type "tuple") (hd : o.data = .seq items n) (hT : ∀ x ∈ items.toList, ReprB prog w N d h0 x) (hM : items.size * (N + 2) + 5 ≤ M) : ReprB prog w M (d + 1) h0 (.ref a) := @NI.run _ (by exact NI.carry : NI.Carry (by
  intro base hb A E s Q hu hk q
  refine wpAny_pyReprUnder_ref (by omega) ?_
  refine wpAny_pyReprObjUnder_twin (twin := "tuple.__repr__.under") ⟨o, hk _ _ ha, hc⟩ F.slot_tuple_repr rfl (by omega) ?_
  refine call_twin_own (F.quiet_tuple_repr_under _) F.entry_tuple_repr_under F.check_tuple_repr_under ⟨o, hk _ _ ha, hc⟩ F.slot_tuple_repr (F.args_tuple_repr_1 _) (wpOwn_of_wpAny ?_)
  refine tup_atB (by rw [units_under_tuple_repr_under]; omega) hk (hk _ _ ha) hd hT (fun t u tk ht => ?_) (by omega)
  exact ⟨⟨_, _, rfl⟩, _, _, rfl, q _ _ (by omega)⟩
))
end
end Wo
end
section
namespace Wo
open PySem PySem.Spec PyProof.Rows L2 Builtin
end Wo
end
section
namespace Wo
open PySem PySem.Spec PyProof.Rows L2
def EqT (X : Cx) (n : Nat) (H : Hp) (x y : V) : Prop := ∀ (A : Around) (pins : List (Addr × Obj)) (s : Shared) (σ : L2.St) (H1 : Hp) (u v : Value), Sub X n A → L2.Inv X pins σ H1 s → Same H H1 → RelV x u → RelV y v →
  wpAny (model X.prog X.w) A (eqBool u v) (fun r s' => r = true ∧ ∃ H', L2.Inv X pins σ H' s' ∧ Same H H') X.xe s
def RcT (X : Cx) (n : Nat) (H : Hp) (x y : V) : Prop := ∀ (A : Around) (pins : List (Addr × Obj)) (s : Shared) (σ : L2.St) (H1 : Hp) (u v : Value), Sub X n A → L2.Inv X pins σ H1 s → Same H H1 → RelV x u → RelV y v →
  wpAny (model X.prog X.w) A (richCompare .Eq u v) (fun r s' => r = .bool true ∧ ∃ H', L2.Inv X pins σ H' s' ∧ Same H H') X.xe s
section
variable {X : Cx} {n : Nat} {H : Hp} {x y : V}
theorem eqT_same {a : Addr} : EqT X n H (.ref a) (.ref a) := @NI.run _ (by exact NI.carry : NI.Carry (by
  intro A pins s σ H1 u v sb I e rx ry
  cases rx
  cases ry
  exact SeqAt.EqAt.same (A := A) (s := s) (.ref a) X.prog X.w X.xe _ ⟨rfl, H1, I, e⟩
))
theorem eqT_flat {f : Fl} (h1 : flOf x = some f) (h2 : flOf y = some f) : EqT X n H x y := @NI.run _ (by exact NI.carry : NI.Carry (by
  intro A pins s σ H1 u v sb I e rx ry
  have := (eqB_flat (X := X) (R := RF) (fun H x a q => RF.flat (H := H) q) fun H x y a b h1 h2 => RF.eq (H := H) h1 h2).mono (Nat.zero_le n) A pins s σ H1 x y u v f f sb I rx ry h1 h2
  exact wpAny_mono this (fun r s' ⟨hr, H', I', e'⟩ => ⟨hr.mpr rfl, H', I', e.trans e'⟩) fun _ _ z => z
))
theorem eqT_refs {p q : Addr} (h : RcT X n H (.ref p) (.ref q)) : EqT X n H (.ref p) (.ref q) := @NI.run _ (by exact NI.carry : NI.Carry (by
  by_cases hab : p = q
  · subst hab
    exact eqT_same
  · intro A pins s σ H1 u v sb I e rx ry
    cases rx
    cases ry
    refine GQ.eqBool_refG hab (wpAny_mono (h A pins s σ H1 (.ref p) (.ref q) sb I e rfl rfl) (fun r s' z => ?_) fun _ _ x => x)
    obtain ⟨er, z⟩ := z
    exact ⟨true, er, rfl, z⟩
))
theorem paired_at {α β : Type} {R : α → β → Prop} : ∀ {as : List α} {bs : List β} {i : Nat} {a : α}, Paired R as bs → as[i]? = some a → ∃ b, bs[i]? = some b ∧ R a b
  | _, _, _, _, .nil, e => by simp at e
  | _, _, 0, _, .cons h _, e => by
    simp at e
    subst e
    exact ⟨_, rfl, h⟩
  | _, _, i + 1, _, .cons _ t, e => by
    obtain ⟨b, h1, h2⟩ := paired_at t (show _ = _ by simpa using e)
    exact ⟨b, by simpa using h1, h2⟩
theorem turnT {A : Around} {pins : List (Addr × Obj)} {σ : L2.St} {xs ys : List V} {its its2 : List Value} (sb : Sub X (n + 1) A) (h : Paired (EqT X n H) xs ys) (r : Vals xs its) (r' : Vals ys its2)
    (i : Nat) (h1 : i < its.toArray.size) (h2 : i < its2.toArray.size) (s' : Shared) (l : ∃ H', L2.Inv X pins σ H' s' ∧ Same H H') :
    wpAny (model X.prog X.w) A.in1 (eqBool its.toArray[i] its2.toArray[i]) (fun r s2 => r = true ∧ ∃ H', L2.Inv X pins σ H' s2 ∧ Same H H') X.xe s' := @NI.run _ (by exact NI.carry : NI.Carry (by
  obtain ⟨H1, I1, e1⟩ := l
  have g1 : its[i]? = some its.toArray[i] := by
    have h1' : i < its.length := by simpa using h1
    rw [List.getElem?_eq_getElem h1'] <;> simp
  have g2 : its2[i]? = some its2.toArray[i] := by
    have h2' : i < its2.length := by simpa using h2
    rw [List.getElem?_eq_getElem h2'] <;> simp
  have k1 : i < xs.length := by rw [r.length]; simpa using h1
  obtain ⟨u, hu, ru⟩ := r.get (List.getElem?_eq_getElem k1)
  obtain ⟨y, hy, e⟩ := paired_at h (List.getElem?_eq_getElem k1)
  obtain ⟨v, hv, rv⟩ := r'.get hy
  rw [g1] at hu
  rw [g2] at hv
  rw [Option.some.inj hu, Option.some.inj hv]
  exact e A.in1 pins s' σ H1 u v sb.in1 I1 e1 ru rv
))
theorem paired_len {α β : Type} {R : α → β → Prop} : ∀ {as : List α} {bs : List β}, Paired R as bs → as.length = bs.length
  | _, _, .nil => rfl
  | _, _, .cons _ t => by rw [List.length_cons, List.length_cons, paired_len t]
theorem rcT_tup {p q : Addr} {xs ys : List V} (h : Paired (EqT X n H) xs ys) (sq1 : SqT X.K H p xs) (sq2 : SqT X.K H q ys) : RcT X (n + 1) H (.ref p) (.ref q) := @NI.run _ (by exact NI.carry : NI.Carry (by
  intro A pins s σ H1 u v sb I e rx ry
  cases rx
  cases ry
  have hlen := paired_len h
  obtain ⟨its, v1, e1, _⟩ := I.tuple (Same.seqT e sq1)
  obtain ⟨its2, v2, e2, _⟩ := I.tuple (Same.seqT e sq2)
  have l1 : its.toArray.size = xs.length := by rw [List.size_toArray, ← v1.length]
  have l2 : its2.toArray.size = ys.length := by rw [List.size_toArray, ← v2.length]
  obtain ⟨⟨cls, dd, data, sl⟩, ho, hc, m1, hd⟩ := id e1
  obtain ⟨⟨cls2, dd2, data2, sl2⟩, ho2, hc2, m2, hd2⟩ := id e2
  simp only at hc hd hc2 hd2
  subst hc hd hc2 hd2
  refine wpAny_richCompare_same_room (op := .Eq) ⟨_, ho, rfl⟩ ⟨_, ho2, rfl⟩ F.slot_tuple_eq (GQ.call_here F.slot_tuple_eq ⟨_, ho, rfl⟩ F.entry_tuple_eq (F.args_tuple_eq_2 _ _) ?_) sb.room.units0
  refine tuple_eqB (R := wants (fun v s' => v ≠ .notImplemented ∧ v = .bool true ∧ ∃ H', L2.Inv X pins σ H' s' ∧ Same H H') X.xe) p q its.toArray its2.toArray m1 m2 dd dd2 sl sl2 (fun i s' => ∃ H', L2.Inv X pins σ H' s' ∧ Same H H') (fun i k1 k2 s' l => ?_) (fun s' l => ?_) ho ho2 ⟨H1, I, e⟩
  · refine wpAny_mono (turnT sb h v1 v2 i k1 k2 s' l) (fun r s2 z => ?_) fun _ _ x => x
    obtain ⟨hr, z⟩ := z
    subst hr
    exact z
  · refine ⟨(fun x => nomatch x), ?_, l⟩
    rw [l1, l2, hlen]
    simp
))
theorem rcT_lst {p q : Addr} {xs ys : List V} (h : Paired (EqT X n H) xs ys) (sq1 : SqL X.K H p xs) (sq2 : SqL X.K H q ys) : RcT X (n + 1) H (.ref p) (.ref q) := @NI.run _ (by exact NI.carry : NI.Carry (by
  intro A pins s σ H1 u v sb I e rx ry
  cases rx
  cases ry
  have hlen := paired_len h
  have look : ∀ s' : Shared, (∃ H', L2.Inv X pins σ H' s' ∧ Same H H') → ∃ its its2 m1 m2 sl1 sl2, Vals xs its ∧ Vals ys its2 ∧ s'.heap.get? p = some { cls := .type "list", data := .seq its.toArray m1, slots := sl1 } ∧ s'.heap.get? q = some { cls := .type "list", data := .seq its2.toArray m2, slots := sl2 } := fun s' ⟨H', I', e'⟩ => by
    obtain ⟨its, m1, sl1, v1, e1⟩ := I'.plist (Same.seq e' sq1)
    obtain ⟨its2, m2, sl2, v2, e2⟩ := I'.plist (Same.seq e' sq2)
    exact ⟨its, its2, m1, m2, sl1, sl2, v1, v2, e1, e2⟩
  obtain ⟨its0, its02, m01, m02, s01, s02, v01, v02, e01, e02⟩ := look s ⟨H1, I, e⟩
  refine wpAny_richCompare_same_room (op := .Eq) ⟨_, e01, rfl⟩ ⟨_, e02, rfl⟩ F.slot_list_eq (GQ.call_here F.slot_list_eq ⟨_, e01, rfl⟩ F.entry_list_eq (F.args_list_eq_2 _ _) ?_) sb.room.units0
  refine list_eqB (R := wants (fun v s' => v ≠ .notImplemented ∧ v = .bool true ∧ ∃ H', L2.Inv X pins σ H' s' ∧ Same H H') X.xe) p q xs.length (fun i s' => ∃ H', L2.Inv X pins σ H' s' ∧ Same H H') (fun i s' l => ?_) (fun s' l => ?_) ⟨H1, I, e⟩
  · obtain ⟨its, its2, m1, m2, sl1, sl2, v1, v2, e1, e2⟩ := look s' l
    refine ⟨its.toArray, its2.toArray, m1, m2, sl1, sl2, e1, e2, by rw [List.size_toArray, ← v1.length], by rw [List.size_toArray, ← v2.length, hlen], fun k1 k2 => ?_⟩
    refine wpAny_mono (turnT sb h v1 v2 i k1 k2 s' l) (fun r s2 z => ?_) fun _ _ x => x
    obtain ⟨hr, z⟩ := z
    subst hr
    exact z
  · exact ⟨(fun x => nomatch x), rfl, l⟩
))
end
end Wo
end
section
namespace Wo
open PySem PySem.Spec PyProof.Rows L2
section
variable {K : PySem.W.Frag} {H : Hp} {Q : VK} {y : V}
theorem rd_inRS {ns : List Str} {z : Str} (h : RT K RS H y ns) (q : Q (.bl (decide (z ∈ ns))) H) : rIn K false (.str z) y H Q := @NI.run _ (by exact NI.carry : NI.Carry (by
  obtain ⟨p, vs, rfl, s, r, _⟩ := h
  obtain rfl := RAll.of_strs r
  exact rd_inTS s q
))
end
end Wo
end
section
namespace Wo
open PySem PySem.Spec PyProof.Rows L2
def tListVals (td : TE) : TE := fun σ H Q => td σ H fun x H1 => ∃ d kvs, x = .ref d ∧ H1 d = some (.dT kvs) ∧ ∀ p, H1 p = none → Q (.ref p) (upd H1 p (.lst (kvs.map (·.2))))
theorem rd_listVals {td : TE} {σ : L2.St} {H : Hp} {Q : VK} (q : td σ H fun x H1 => ∃ d kvs, x = .ref d ∧ H1 d = some (.dT kvs) ∧ ∀ p, H1 p = none → Q (.ref p) (upd H1 p (.lst (kvs.map (·.2))))) : tListVals td σ H Q := q
end Wo
end
section
namespace Wo
open PySem PySem.Spec PyProof.Rows L2
section
variable {P : Program} {w : World} {A : Around} {E : Value → Shared → Prop} {s : Shared}
set_option maxHeartbeats 3200000 in
theorem call_setZT {l : Addr} {items : Array Value} (ks : List Str) {Q : Value → Shared → Prop} (hh : A.handled = none) (hl : s.heap.IsTuple l items) (hit : StrsAre items.toList ks) (few : ks.length < scanBound) (h : ∀ s', SetsZ w s ks s' → Q (.ref s.heap.objs.size) s') :
    wpAny (model P w) A (call (.type "set") [.ref l]) Q E s := @NI.run _ (by exact NI.carry : NI.Carry (by
  have hsz : items.size = ks.length := by rw [← Array.length_toList, hit.length]
  have free : ∀ b, s.heap.objs.size ≤ b → s.heap.get? b = none := fun b hb => by
    cases q : s.heap.get? b with
    | none => rfl
    | some o => exact absurd (Heap.lt_size q) (Nat.not_lt.mpr hb)
  obtain ⟨c, tl, hmro⟩ := F.called_set.mro
  have hmade := F.called_set.made
  have hsub := F.called_set.sub
  have h1 := F.called_set.notType
  have h2 := F.called_set.canCreate
  have hct := F.typeCall_set_1 (.ref l)
  generalize hled : (!w.params.followText "set-order") = led
  have ledOk : w.params.followText "set-order" = true ∨ led = true := by
    rw [← hled]
    cases w.params.followText "set-order"
    · exact .inr rfl
    · exact .inl rfl
  refine wpAny_call (codeAny_of_tree ?_)
  show wpAny _ _ (callAny (.type "set") _) _ _ _
  refine wpAny_pure ⟨Code.quiet_builtin _ (by decide +kernel), codeAny_builtin F.entry_type_call ?_⟩
  rw [Around.under_plain (weight_type_call_type "set" [.ref l] []) rfl]
  repeat (any_goals (first | assumption | wp_step))
  refine codeAny_mono (code_set_led1 (.ref l) (E := E) (Q₁ := fun obj s₁ => obj = .ref s.heap.objs.size ∧ s₁ = { s with heap := s.heap.push (emptySet led) }) (by rw [hled]; exact ⟨rfl, rfl⟩)) fun r s₁ hr => ?_
  rcases r with e | fl
  · exact hr
  cases fl with
  | ret obj =>
    obtain ⟨rfl, rfl⟩ := hr
    have hob : (s.heap.push (emptySet led)).get? s.heap.objs.size = some (emptySet led) := Heap.get?_push_size _ rfl
    have hT : Shared.TypeIs { s with heap := s.heap.push (emptySet led) } (.ref s.heap.objs.size) "set" := ⟨_, hob, rfl⟩
    have hli := F.called_set.init.lookup
    have hbi := F.called_set.init.bind (.ref s.heap.objs.size)
    repeat (any_goals (first | assumption | wp_step))
    refine codeAny_mono (codeAny_call_builtin (R := wants (fun r s₂ => r = .none ∧ SetsZ w s ks s₂) E) F.called_set.init.plain F.entry_set_init (check_set_init_1 hT ?_)) fun r₂ s₂ hr₂ => ?_
    · obtain ⟨ol, hol, hcl, nl, hdl⟩ := hl
      have hol1 : (s.heap.push (emptySet led)).get? l = some ol := Heap.get?_push_of_some _ hol
      obtain ⟨ocls, odict, odata, oslots⟩ := ol
      simp only at hcl hdl
      subst hcl hdl
      have hsls := F.sub_tuple_set
      have hslf := F.sub_tuple_frozenset
      have hne : (Value.type "tuple" == Value.type "dict") = false := by decide
      have hl1 : (s.heap.push (emptySet led)).IsTuple l items := ⟨_, hol1, rfl, nl, rfl⟩
      unfold Builtin.«set.__init__» noKeywords Builtin.Frozenset.updateFrom
      generalize hPI : pyIter = PI
      wp_walk
      subst hPI
      refine wpAny_pyIter_tuple hl1 (wpAny_bind (wpAny_runValue ?_))
      have hlt : l < s.heap.objs.size := Heap.lt_size hol
      have hI : (s.heap.push (emptySet led)).objs.size = s.heap.objs.size + 1 := Heap.size_push ..
      have hneI : l ≠ (s.heap.push (emptySet led)).objs.size := by rw [hI]; exact Nat.ne_of_lt (Nat.lt_succ_of_lt hlt)
      refine fillZ ((Walks.tuple (by simp [hh] : A.in1.in1.in1.handled = none) _ l hneI items).toS) s.heap.objs.size (by rw [hI]; simp only [List.mem_cons, List.not_mem_nil, or_false, not_or]; exact ⟨Nat.ne_of_lt (Nat.lt_succ_self _), Nat.ne_of_gt hlt⟩) ks hsz few
        (fun i v hv => ?_) s.heap (free _ (Nat.le_refl _)) (fun b hb => free b (by rw [List.mem_singleton.mp hb]; omega)) (items.size - 0) 0 _ (by omega) (Nat.zero_le _)
        ⟨⟨_, Heap.get?_push_size _ rfl, rfl, rfl⟩, hl1.push _⟩ (fun b o e => Heap.get?_push_of_some _ (Heap.get?_push_of_some _ e)) (setZ_none ledOk (Heap.get?_push_of_some _ hob)) fun s' hm q hG => ?_
      · have z : items.toList[i]? = some v := by rw [Array.getElem?_toList]; exact hv
        exact strsAt hit z
      · obtain ⟨h', g2, d', tk', os'⟩ := s'
        have eg : g2 = s.gens := hm.gens
        have ed : d' = s.drawn := hm.drawn
        have eo : os' = s.os := hm.os
        subst eg ed eo
        show wpAny _ _ _ _ _ _
        refine wpAny_pure ?_
        show wpAny _ _ (ret Value.none) _ _ _
        exact wpAny_pure ⟨rfl, h', tk', rfl, hG, q⟩
    · rcases r₂ with e | fl₂
      · exact hr₂
      cases fl₂ with
      | ret r =>
        obtain ⟨rfl, hd⟩ := hr₂
        repeat (any_goals (first | assumption | wp_step))
        exact h _ hd
      | _ => exact hr₂.elim
  | _ => exact hr.elim
))
end
theorem insF_nodup : ∀ {ks ls : List Str}, (ls ++ ks).Nodup → ks.foldl insZ ls = ls ++ ks
  | [], ls, _ => by simp
  | k :: ks, ls, h => by
    have hk : k ∉ ls := fun z => (List.nodup_append.mp h).2.2 k z k List.mem_cons_self rfl
    have e : insZ ls k = ls ++ [k] := by unfold insZ; rw [if_neg hk]
    rw [List.foldl_cons, e, insF_nodup (ks := ks) (ls := ls ++ [k]) (by rw [List.append_assoc]; exact h), List.append_assoc]
    rfl
theorem insA_nodup {ks : List Str} (h : ks.Nodup) : insA ks = ks := insF_nodup (ls := []) h
def tLenSetS (K : PySem.W.Frag) (ta : TE) : TE := fun σ H Q => ta σ H fun x H1 => ∃ ls, RT K RS H1 x ls ∧ ls.Nodup ∧ ls.length < 1000 ∧ Q (.int (ls.length : Int)) H1
theorem rd_lenSetS {K : PySem.W.Frag} {ta : TE} {σ : L2.St} {H : Hp} {Q : VK} (q : ta σ H fun x H1 => ∃ ls, RT K RS H1 x ls ∧ ls.Nodup ∧ ls.length < 1000 ∧ Q (.int (ls.length : Int)) H1) : tLenSetS K ta σ H Q := q
theorem strs_of : ∀ {us : List Value} {ls : List Str}, Vals (ls.map V.str) us → StrsAre us ls
  | _, [], .nil => .nil
  | _, l :: ls, .cons h t => by
    obtain ⟨tk, rfl⟩ := h
    exact .cons l tk (strs_of t)
theorem pe_lenSetS {X : Cx} {K : PySem.W.Frag} {a : Expr} {ta : TE} {p p2 q pos : Pos} (hg : Gl X "len") (hm : X.mg "len" = none) (hg2 : Gl X "set") (hm2 : X.mg "set" = none) (ha : PE X a ta) (hK : X.K = K := by rfl) (hc : X.calm = true := by rfl)
    (na : starEach [a] X.env = (false, eval a X.env) :: starEach [] X.env := by rfl) : PE X (.Call (.Name "len" p) [.Call (.Name "set" p2) [a] [] q] [] pos) (tLenSetS K ta) := @NI.run _ (by exact NI.carry : NI.Carry (by
  subst hK
  refine ⟨fun pins s σ H Q I h => ?_⟩
  refine Call_ (ld_blt I hg hm boot_len ?_)
  refine PyProof.Rows.callWith_builtin1 (PyProof.Rows.args_cons ?_ rfl) rfl rfl
  refine Call_ (ld_blt I hg2 hm2 PyProof.Rows.boot_set ?_)
  refine PyProof.Rows.callWith_type1 (PyProof.Rows.args_cons (thn (ha.run pins s σ H _ I h) fun v s1 ⟨x, H1, I1, r1, ls, hx, hnd, hl, q1⟩ => PyProof.Rows.args_nil ?_) na) na rfl
  obtain ⟨l, vs, rfl, hq, hr, _⟩ := hx
  cases r1
  obtain rfl := RAll.of_strs hr
  obtain ⟨us, rv, pl, _⟩ := I1.tuple hq
  have sb : scanBound = 4096 := rfl
  refine call_setZT ls (I1.ok.hd hc) pl (by simpa using strs_of rv) (by omega) fun s2 hd => ?_
  obtain ⟨h', tk, rfl, hG, hk⟩ := hd
  rw [insA_nodup hnd] at hG
  refine PyProof.Rows.args_nil ?_
  have I2 : L2.Inv X pins σ H1 { s1 with heap := h', toks := tk } := I1.kept hk
  obtain ⟨⟨ob, en, ep, tb, ho, hex, hdt, _, hp, hf, _⟩, _, _⟩ := hG
  have hz : en.size = ls.length := by rw [← hp.length_eq, List.length_map, Array.length_toList]
  rw [← hz] at q1
  exact call_len_set ho hex hdt hf (by rw [hz]; omega) ⟨.int en.size, H1, I2.tok _, ⟨_, rfl⟩, q1⟩
))
end Wo
end
section
namespace Wo
open PySem PySem.Spec PyProof.Rows L2
def tIxO (C : Addr) (sp : Sp) (to ti : TE) : TE := fun σ H Q => to σ H fun x H1 => ti σ H1 fun y H2 => Own C H2 x ∧ sp [x, y] H2 Q E0
theorem rd_ixO {C : Addr} {sp : Sp} {to ti : TE} {σ : L2.St} {H : Hp} {Q : VK} (q : to σ H fun x H1 => ti σ H1 fun y H2 => Own C H2 x ∧ sp [x, y] H2 Q E0) : tIxO C sp to ti σ H Q := q
section
variable {X : Cx} {k : Nat} {g C : Addr} {sp : Sp} {o i : Expr} {to ti : TE} {pos : Pos} {x q : Str} {as : Arguments} {bd : List Stmt} {sc : Scope}
theorem pe_ixO (F : FnR X.prog X.w X.K X.mg X.base (CXW X.prog X.w) k g sp) (O : OwnM X.K C "__getitem__" g) (D : ∃ fd, FunD X.K x q as bd sc [] [] g fd) (hr : Room (k + 1) X.A) (ho : PE X o to) (hi : PE X i ti)
    (hsl : ∀ u v, subscripted i true u v = runValue (.builtin "lifetime.subscript" ⟨[u, v], []⟩) := by intro _ _; with_unfolding_all rfl) : PE X (.Subscript o i pos) (tIxO C sp to ti) := @NI.run _ (by exact NI.carry : NI.Carry (by
  refine ⟨fun pins s σ H Q I h => ?_⟩
  have hfn : PySem.W.fnIn X.K g = true := by
    obtain ⟨fd, ⟨oc, od, dV, kV, doc, pm, an, cdv, ct, osl, e, lk, _⟩, _⟩ := D
    unfold PySem.W.fnIn
    rw [lk]
  refine Subscript_ (binT (R := fun x y H2 => Own C H2 x ∧ sp [x, y] H2 Q E0) ho hi I h fun v u s2 x y H2 I2 rx ry q => ?_)
  obtain ⟨⟨p1, d1, vs, rfl, s1'⟩, q⟩ := q
  cases (show v = Value.ref p1 from rx)
  obtain ⟨sl, od, _, J, _⟩ := SlX.slt_inst I2 s1'
  obtain ⟨m', hF⟩ := I2.fr
  exact PySem.W.sub_K hF I2.ok.mod.kin J O.at_ hfn O.fn (wpAny_mono (wpAny_call (SlX.run_at (us := [.ref p1, u]) (ws := [.ref p1, y]) F (Room.in1 hr) I2.env0.in1 passF I2 (.cons rfl (.cons ry .nil)) q)) (fun _ _ z => z) fun _ _ z => z) (hsl _ _)
))
end
end Wo
end
section
namespace Wo
open PySem PySem.Spec PyProof.Rows L2
section
variable {prog : Program} {w : World} {A : Around} {E : Value → Shared → Prop} {s : Shared}
theorem dictPut_pairs {d : Addr} {kvs : List (Key × Value)} {k : Key} {key v : Value} {Q : Unit → Shared → Prop} (hkey : (mixKind prog w).is k key = true) (hm : s.heap.DictOf (mixKind prog w) d kvs)
    (hQ : ∀ g, g.DictOf (mixKind prog w) d (stored kvs k v) → Heap.SameBut d s.heap g → Q () { s with heap := g }) (fits : kvs.length ≤ sizeLine) :
    wpAny (model prog w) A (dictPut d ((mixKind prog w).hash k) key v) Q E s := @NI.run _ (by exact NI.carry : NI.Carry (by
  obtain ⟨ob, en, mark, h1, h2, h3, h4, h5, h6⟩ := hm
  have few : en.size ≤ sizeLine := by
    have z1 := h5.length
    have z2 : en.toList.length = en.size := by simp
    omega
  unfold dictPut
  refine wpAny_bind (wpAny_dictFind_of hkey h1 h3 h4 ?_)
  have at_ : (en.findIdx? fun c => (mixKind prog w).is k c.key) = kvs.findIdx? fun c => decide (c.1 = k) := by
    rw [← h5.findIdx k]
    obtain ⟨l⟩ := en
    simp
  cases q : en.findIdx? fun c => (mixKind prog w).is k c.key with
  | some i =>
    refine wpAny_updateDict h1 h3 (hQ _ ⟨_, _, mark, Heap.get?_update_self _ h1 (Obj.isFreed_of_dict (Obj.data_mapDict h3 _)), h2.mapDict _, Obj.data_mapDict h3 _, h4.modify _ _, ?_, ?_⟩ (Heap.SameBut.update ..))
    · rw [stored, if_pos (any_of_findIdx_some (at_ ▸ q))]
      have ql : (en.toList.findIdx? fun c => (mixKind prog w).is k c.key) = some i := by
        rw [← q]
        obtain ⟨l⟩ := en
        simp
      have z := h5.modify h6 ql v
      obtain ⟨l⟩ := en
      simpa using z
    · rw [stored, if_pos (any_of_findIdx_some (at_ ▸ q)), keys_map_store]
      exact h6
  | none =>
    have off : k ∉ kvs.map (·.1) := not_mem_of_findIdx_none (at_ ▸ q)
    have none_ : ¬ (kvs.any fun c => decide (c.1 = k)) = true := fun z => by
      obtain ⟨c, hc, e⟩ := List.any_eq_true.mp z
      exact off (List.mem_map.mpr ⟨c, hc, of_decide_eq_true e⟩)
    refine wpAny_updateDictKeys (hz := few) h1 h3 (hQ _ ⟨_, _, mark + 1, Heap.get?_update_self _ h1 (Obj.isFreed_of_dict (Obj.data_mapDictKeys h3 _)), h2.mapDictKeys _, Obj.data_mapDictKeys h3 _, h4.push hkey _, ?_, ?_⟩ (Heap.SameBut.update ..))
    · rw [stored, if_neg none_]
      have z := h5.append hkey ((mixKind prog w).hash k) v
      obtain ⟨l⟩ := en
      simpa using z
    · rw [stored, if_neg none_, List.map_append, List.nodup_append]
      refine ⟨h6, by simp, fun a ha b hb => ?_⟩
      obtain rfl := List.mem_singleton.mp hb
      exact fun e => off (e ▸ ha)
))
theorem key_flat {k : Key} {u : Value} (h : (mixKind prog w).is k u = true) : ∀ a, u ≠ .ref a := @NI.run _ (by exact NI.carry : NI.Carry (by
  rintro a rfl
  cases k <;> cases h
))
theorem merge_pairs {d o : Addr} {kvs more : List (Key × Value)} {Q : Unit → Shared → Prop} (hdo : d ≠ o) (hos : (o == sysModules) = false) (hd : s.heap.DictOf (mixKind prog w) d kvs) (ho : s.heap.DictOf (mixKind prog w) o more)
    (hQ : ∀ g, g.DictOf (mixKind prog w) d (merged kvs more) → g.DictOf (mixKind prog w) o more → Heap.SameBut d s.heap g → Q () { s with heap := g }) (fits : kvs.length + more.length ≤ sizeLine) :
    wpAny (model prog w) A (mergeMapping d (.ref o) false) Q E s := @NI.run _ (by exact NI.carry : NI.Carry (by
  obtain ⟨od, ed, md, d1, d2, d3, d4, d5, d6⟩ := id hd
  obtain ⟨oo, eo, mo, o1, o2, o3, o4, o5, o6⟩ := id ho
  have bound : ∀ i, (merged kvs (more.take i)).length ≤ sizeLine := fun i => by
    have z1 := merged_length_le kvs (more.take i)
    have z2 : (more.take i).length ≤ more.length := by rw [List.length_take]; omega
    omega
  have size_ : more.length = eo.size := by rw [← o5.length]; simp
  unfold mergeMapping
  refine wpAny_bind (wpAny_isInstance ho.typeIs isSubtype_dict_dict ?_)
  simp only [if_true]
  refine wpAny_bind (wpAny_specialOf ho.typeIs F.slot_dict_iter.lookup (wpAny_bind (wpAny_pure ?_)))
  simp only [beq_self_eq_true]
  rw [if_neg (by rw [hos]; exact Bool.false_ne_true)]
  refine wpAny_bind (wpAny_dictEntries d1 d3 ?_)
  have loop : wpAny (model prog w) A (do
      let l ← dictEntries o
      let mark ← dictEpoch o
      forIn (List.range l.size) PUnit.unit fun i (_ : PUnit) => (do
          let l' ← dictEntries o
          match l'[i]? with
            | some c => do
              holding [c.key, c.val] (dictPut d c.hash c.key c.val)
              let m' ← dictEpoch o
              if (m' != mark) = true then do
                  (unsupported "dict.changed-during-merge" : Sem PUnit)
                  pure (ForInStep.yield PUnit.unit)
                else pure (ForInStep.yield PUnit.unit)
            | _ => do
              (unsupported "dict.changed-during-merge" : Sem PUnit)
              pure (ForInStep.yield PUnit.unit) : Sem (ForInStep PUnit))
      pure ()) Q E s := by
    refine wpAny_bind (wpAny_dictEntries o1 o3 ?_)
    refine wpAny_bind (wpAny_dictEpoch o1 o3 ?_)
    refine wpAny_bind ?_
    refine wpAny_forIn_list _ (fun left _ z => ∃ g i, z = { s with heap := g } ∧ left = List.range' i (eo.size - i) ∧ i ≤ eo.size ∧ g.DictOf (mixKind prog w) d (merged kvs (more.take i)) ∧ g.get? o = some oo ∧ Heap.SameBut d s.heap g) _ ?_ ?_ _ _
      ⟨s.heap, 0, rfl, by rw [List.range_eq_range']; simp, Nat.zero_le _, by simpa [merged] using hd, o1, Heap.SameBut.refl _ _⟩
    · rintro x left b z ⟨g, i, rfl, hl, hi, gd, go, gs⟩
      have lt : i < eo.size := by
        rcases Nat.lt_or_ge i eo.size with h | h
        · exact h
        · rw [Nat.sub_eq_zero_of_le h] at hl
          simp at hl
      obtain ⟨rfl, rest⟩ : x = i ∧ left = List.range' (i + 1) (eo.size - (i + 1)) := by
        rw [show eo.size - i = (eo.size - (i + 1)) + 1 by omega, List.range'_succ] at hl
        injection hl with a1 a2
        exact ⟨a1, a2⟩
      refine wpAny_bind (wpAny_dictEntries go o3 ?_)
      rw [Array.getElem?_eq_getElem lt]
      obtain ⟨⟨k, v⟩, hkv⟩ : ∃ c, more[x]? = some c := ⟨more[x]'(by rw [size_]; exact lt), List.getElem?_eq_getElem _⟩
      obtain ⟨key_, val_⟩ := o5.get? (e := eo[x]) (by simp [lt]) hkv
      obtain ⟨k', key2, hash_⟩ := o4 eo[x] (Array.getElem_mem lt)
      obtain rfl : k' = k := (mixKind prog w).inj _ _ _ key2 key_
      dsimp only
      rw [hash_, val_]
      refine wpAny_bind (wpAny_holding (dictPut_pairs key_ gd (fun g2 gd2 gs2 => ?_) (bound x)))
      have go2 : g2.get? o = some oo := (gs2.2 o (Ne.symm hdo)).trans go
      refine wpAny_bind (wpAny_dictEpoch go2 o3 ?_)
      rw [if_neg (by simp)]
      exact wpAny_pure ⟨g2, x + 1, rfl, rest, lt, by rw [merged_take_succ kvs more x (k', v) hkv]; exact gd2, go2, gs.trans gs2⟩
    · rintro b z ⟨g, i, rfl, hl, hi, gd, go, gs⟩
      have hin : i = eo.size := by
        rcases Nat.lt_or_ge i eo.size with h | h
        · rw [show eo.size - i = (eo.size - (i + 1)) + 1 by omega, List.range'_succ] at hl
          cases hl
        · omega
      rw [hin, ← size_, List.take_length] at gd
      exact wpAny_pure (hQ g gd ⟨oo, eo, mo, go, o2, o3, o4, o5, o6⟩ gs)
  have flat_ : ∀ c ∈ eo.toList, ∀ a, c.key ≠ .ref a := fun c hc a z => by
    obtain ⟨k, hk, _⟩ := o4 c (Array.mem_toList_iff.mp hc)
    exact key_flat hk a z
  split
  · refine wpAny_bind (wpAny_dictEntries o1 o3 ?_)
    refine wpAny_bind ?_
    rw [← Array.forIn_toList]
    refine wpAny_forIn_list _ (fun left _ z => z = s ∧ ∀ c ∈ left, ∀ a, c.key ≠ .ref a) _ ?_ ?_ _ _ ⟨rfl, flat_⟩
    · rintro c left b z ⟨rfl, all⟩
      have nx : ∀ y ∈ left, ∀ a, y.key ≠ .ref a := fun y hy => all y (List.mem_cons_of_mem _ hy)
      split
      · rename_i a q
        exact absurd q (all c List.mem_cons_self a)
      · exact wpAny_pure ⟨rfl, nx⟩
    · rintro b z ⟨rfl, _⟩
      exact loop
  · exact loop
))
end
def tDmore (td tk tv : TE) : TE := fun σ H Q => ∀ p, H p = none → td σ (upd H p (.dK [])) fun x H1 => ∃ a kvs, x = .ref a ∧ a ≠ p ∧ H1 a = some (.dK kvs) ∧ H1 p = some (.dK []) ∧ kvs.length < 10000 ∧
  ∀ q, H1 q = none → tk σ (upd (upd H1 p (.dK (mergeK [] kvs))) q (.dK [])) fun y H2 => tv σ H2 fun z H3 => ∃ k, y = kV k ∧ p ≠ q ∧ H3 q = some (.dK []) ∧ H3 p = some (.dK (mergeK [] kvs)) ∧ Q (.ref p) (upd (upd H3 q (.dK [(k, z)])) p (.dK (mergeK (mergeK [] kvs) [(k, z)])))
section
variable {X : Cx}
theorem pe_dmore {pos : Pos} {d k v : Expr} {td tk tv : TE} (hu : X.A.units + 1 < cLine) (hd : PE X d td) (hk : PE X k tk) (hv : PE X v tv) : PE X (.Dict [none, some k] [d, v] pos) (tDmore td tk tv) := @NI.run _ (by exact NI.carry : NI.Carry (by
  refine ⟨fun pins s σ H Q I h => ?_⟩
  rw [arm_eval_Dict]
  refine wpAny_bind (wpAny_standAt ?_)
  unfold dictDisplay
  simp only [evalEachOpt, evalOpt, evalEach, List.map_cons, List.map_nil, List.zip_cons_cons, List.zip_nil_right, List.forIn_cons, List.forIn_nil, List.isEmpty_nil, if_true, pure_bind, bind_assoc, List.nil_append, List.length_singleton, List.isEmpty_cons, Bool.false_eq_true, if_false, Nat.reduceBEq]
  have hn := I.hok.fresh (Nat.le_refl s.heap.objs.size)
  have I1 := I.laid (a := s.heap.objs.size) (o := .dK []) (h' := s.heap.push { cls := .type "dict", data := .dict #[] }) (t' := s.toks) (fun _ _ q => Heap.get?_push_of_some _ q) (Nat.le_refl _) (dk_empty s.heap I.big)
  refine wpAny_bind (wpAny_alloc ?_)
  generalize s.heap.objs.size = p at hn I1 ⊢
  refine wpAny_bind (wpAny_holding (wpAny_bind (thn (hd.run pins _ σ _ _ I1 (h _ hn)) fun u s2 ⟨x, H1, I2, rx, a, kvs, ex, ne, ha, hp, hl, q⟩ => wpAny_bind (wpAny_standAt (wpAny_pure ?_)))))
  subst ex
  obtain rfl : u = Value.ref a := rx
  obtain ⟨_, hos, vs, rel, dd⟩ := dk_of I2.hok ha
  obtain ⟨_, hps, vs0, rel0, dp⟩ := dk_of I2.hok hp
  cases rel0
  have big : 100000 ≤ sizeLine := by decide
  have len1 := length_mergeK kvs []
  rw [List.length_nil, Nat.zero_add] at len1
  refine wpAny_bind (wpAny_onRaise (wpAny_tryCatch (wpAny_onRaise (wpAny_holding (merge_pairs (Ne.symm ne) hos dp dd (fun g gd go gs => ?_) (by rw [← rel.length, List.length_nil]; omega))))))
  have I3 : L2.Inv X pins σ (upd H1 p (.dK (mergeK [] kvs))) { s2 with heap := g } := by
    have he : ∃ o, g.get? p = some o := let ⟨o, _, _, e, _⟩ := gd; ⟨o, e⟩
    exact d_write I2 (t' := s2.toks) (by rw [hp]; exact True.intro) gs he (dk_new (by omega) hps (rel.merge .nil) gd)
  generalize hz3 : ({ s2 with heap := g } : Shared) = s3 at I3 ⊢
  have hq := I3.hok.fresh (Nat.le_refl s3.heap.objs.size)
  have hq0 : H1 s3.heap.objs.size = none := by
    by_cases e : s3.heap.objs.size = p
    · rw [e, upd_same] at hq
      cases hq
    · rw [upd_ne e] at hq
      exact hq
  have npq : p ≠ s3.heap.objs.size := fun e => by
    rw [← e, upd_same] at hq
    cases hq
  have I4 := I3.laid (a := s3.heap.objs.size) (o := .dK []) (h' := s3.heap.push { cls := .type "dict", data := .dict #[] }) (t' := s3.toks) (fun _ _ q => Heap.get?_push_of_some _ q) (Nat.le_refl _) (dk_empty s3.heap I3.big)
  have q := q _ hq0
  refine wpAny_bind (wpAny_holding (wpAny_subDict (knd := mixKind X.prog X.w) (by simp) ?_))
  generalize s3.heap.objs.size = c at hq hq0 npq I4 q ⊢
  rw [evalPairs]
  refine wpAny_bind (thn (hk.run pins _ σ _ _ I4 q) fun ku s4 ⟨y, H2, I5, ry, q⟩ => wpAny_bind (wpAny_holding (wpAny_bind (thn (hv.run pins s4 σ H2 _ I5 q) fun vu s5 ⟨z, H3, I6, rz, k0, ey, npc, hc, hp3, qq⟩ => wpAny_bind (wpAny_standAt (wpAny_pure ?_))))))
  subst ey
  rw [evalPairs]
  refine wpAny_bind (wpAny_holding (wpAny_pure (wpAny_pure ?_)))
  obtain ⟨rs, cr, rk⟩ := carries_of (P := X.prog) (w := X.w) (kvs := [(k0, z)]) (ws := [(ku, vu)]) (.cons ⟨ry, rz⟩ .nil)
  obtain ⟨_, hcs, vs1, rel1, dc⟩ := dk_of I6.hok hc
  cases rel1
  refine ⟨rs, cr, dc, fun g2 gd2 gs2 => ?_⟩
  have I7 : L2.Inv X pins σ (upd H3 c (.dK [(k0, z)])) { s5 with heap := g2, toks := s5.toks + 1 } := by
    have he : ∃ o, g2.get? c = some o := let ⟨o, _, _, e, _⟩ := gd2; ⟨o, e⟩
    exact d_write I6 (by rw [hc]; exact True.intro) gs2 he (dk_new (by show 1 ≤ sizeLine; omega) hcs (rk.merge .nil) gd2)
  obtain ⟨_, _, vs2, rel2, dp2⟩ := dk_of I7.hok (a := p) (by rw [upd_ne npc]; exact hp3)
  obtain ⟨_, hcs2, vs3, rel3, dc2⟩ := dk_of I7.hok (a := c) upd_same
  have len2 := length_mergeK [(k0, z)] (mergeK [] kvs)
  refine wpAny_bind (wpAny_onRaise (wpAny_holding (merge_pairs npc hcs2 dp2 dc2 (fun g3 gd3 go3 gs3 => ?_) (by rw [← rel2.length, ← rel3.length]; show _ + 1 ≤ sizeLine; omega))))
  refine wpAny_pure ⟨.ref p, _, ?_, rfl, qq⟩
  have he : ∃ o, g3.get? p = some o := let ⟨o, _, _, e, _⟩ := gd3; ⟨o, e⟩
  exact d_write I7 (t' := s5.toks + 1) (by rw [upd_ne npc, hp3]; exact True.intro) gs3 he (dk_new (by rw [List.length_singleton] at len2; omega) hps (rel3.merge rel2) gd3)
))
end
end Wo
end
section
namespace Wo
open PySem PySem.Spec PyProof.Rows L2
theorem holds_ints {h : Heap} : ∀ {us : List Value} {ns : List Int}, IntsAre us ns → PySem.W.HoldAll h us ns
  | _, _, .nil => PySem.W.HoldAll.nil
  | _, _, .cons i t r => PySem.W.HoldAll.cons ⟨_, .int i t⟩ (holds_ints r)
def rMaxD (K : PySem.W.Frag) : List V → List V → Hp → VK → Prop := fun vs zs H Q => ∃ (a : Addr) (ns : List Int) (d : Int), vs = [V.ref a] ∧ zs = [V.int d] ∧ SqL K H a (ns.map V.int) ∧ (ns = [] → Q (.int d) H) ∧ ∀ m, m ∈ ns → Q (.int m) H
section
variable {X : Cx}
theorem crk_maxD (hc : X.calm = true) (hu : X.A.units + 6 < cLine) : CallRK X (.builtin "max") ["default"] (rMaxD X.K) := @NI.run _ (by exact NI.carry : NI.Carry (by
  intro pins s σ H vs zs us ws Q I r r2 h
  obtain ⟨a, ns, d, rfl, rfl, hs, q0, q⟩ := h
  obtain ⟨its, rv, hl, _⟩ := I.list hs
  obtain ⟨u, rfl, ru⟩ := r2.one
  obtain ⟨t, rfl⟩ := (show ∃ t, u = Value.int d t from ru)
  rw [Vals.ref1 r]
  refine PySem.W.max_list_datum_default (α := Int) (I.ok.hd hc) hl.isList (holds_ints rv.ints) (by show X.A.units + 1 + 0 < cLine; omega) (fun e h' tk hk => ⟨.int d, H, I.kept hk, ⟨_, rfl⟩, q0 e⟩) (fun y ys i v h' tk e hv _ hk => ?_)
  have hv' : its[i]? = some v := by
    rw [← hv]
    exact (List.getElem?_toArray).symm
  obtain ⟨m, t, rfl, hm⟩ := IntsAre.at rv.ints i v hv'
  exact ⟨.int m, H, I.kept hk, ⟨_, rfl⟩, q m (List.mem_of_getElem? hm)⟩
))
end
theorem kMaxD (K : PySem.W.Frag) {X : Cx} (hc : X.calm = true) (hu : X.A.units + 6 < cLine) (h : X.K = K := by rfl) : CallRK X (.builtin "max") ["default"] (rMaxD K) := @NI.run _ (by exact NI.carry : NI.Carry (by subst h; exact crk_maxD hc hu
))
section
variable {X : Cx} {k1 k2 : Nat} {g1 g2 C1 C2 : Addr} {sp1 sp2 : Sp}
theorem call_lenU (F1 : FnR X.prog X.w X.K X.mg X.base (CXW X.prog X.w) k1 g1 sp1) (O1 : OwnM X.K C1 "__len__" g1) (F2 : FnR X.prog X.w X.K X.mg X.base (CXW X.prog X.w) k2 g2 sp2) (O2 : OwnM X.K C2 "__len__" g2) (hr1 : Room (k1 + 1) X.A) (hr2 : Room (k2 + 1) X.A) :
    CallR X (.builtin "len") (fun vs H Q => (∃ x, vs = [x] ∧ Own C1 H x ∧ sp1 [x] H (fun z H' => ∃ n : Int, z = .int n ∧ 0 ≤ n ∧ n < 2 ^ 63 ∧ Q z H') E0) ∨ (∃ x, vs = [x] ∧ Own C2 H x ∧ sp2 [x] H (fun z H' => ∃ n : Int, z = .int n ∧ 0 ≤ n ∧ n < 2 ^ 63 ∧ Q z H') E0)) := fun pins s σ H xs us Q I r h =>
  h.elim (call_lenN F1 O1 hr1 pins s σ H xs us Q I r) (call_lenN F2 O2 hr2 pins s σ H xs us Q I r)
end
section
variable {X : Cx} {k1 k2 j : Nat} {sp1 sp2 : Sp} {C1 C2 : Addr} {f : Str} {pos : Pos} {e : Expr} {ta : TE}
def tPropU (C1 C2 : Addr) (sp1 sp2 : Sp) (ta : TE) : TE := fun σ H Q => ta σ H fun x H1 => (∃ a dx vs, x = .ref a ∧ SlX.Slt H1 a C1 dx vs ∧ sp1 [.ref a] H1 Q E0) ∨ (∃ a dx vs, x = .ref a ∧ SlX.Slt H1 a C2 dx vs ∧ sp2 [.ref a] H1 Q E0)
theorem ppU (c1 : Prp X.prog X.w X.K X.mg X.base k1 C1 f sp1) (c2 : Prp X.prog X.w X.K X.mg X.base k2 C2 f sp2) (hr : Room j X.A) (he : PE X e ta) (hk1 : k1 + 1 ≤ j := by decide) (hk2 : k2 + 1 ≤ j := by decide) (hb : attributeBase e f X.env (eval e X.env) = eval e X.env := by rfl) : PE X (.Attribute e f pos) (tPropU C1 C2 sp1 sp2 ta) := @NI.run _ (by exact NI.carry : NI.Carry (by
  obtain ⟨g1, ⟨p1, a1, a2, a3, a4⟩, hc1, F1⟩ := c1
  obtain ⟨g2, ⟨p2, b1, b2, b3, b4⟩, hc2, F2⟩ := c2
  refine ⟨fun pins s σ H Q I h => ?_⟩
  refine attr_of hb (thn (he.run pins s σ H _ I h) fun w s1 ⟨x, H1, I1, rx, q⟩ => ?_)
  rcases q with ⟨a, dx, vs, ex, hs, q⟩ | ⟨a, dx, vs, ex, hs, q⟩
  · subst ex
    obtain rfl : w = Value.ref a := rx
    exact SlX.getprop_sl I1 hs hc1 a1 a2 a3 a4 F1 (hr.mono hk1) passF' q
  · subst ex
    obtain rfl : w = Value.ref a := rx
    exact SlX.getprop_sl I1 hs hc2 b1 b2 b3 b4 F2 (hr.mono hk2) passF' q
))
end
theorem rd_propU {C1 C2 : Addr} {sp1 sp2 : Sp} {ta : TE} {σ : L2.St} {H : Hp} {Q : VK} (q : ta σ H fun x H1 => (∃ a dx vs, x = .ref a ∧ SlX.Slt H1 a C1 dx vs ∧ sp1 [.ref a] H1 Q E0) ∨ (∃ a dx vs, x = .ref a ∧ SlX.Slt H1 a C2 dx vs ∧ sp2 [.ref a] H1 Q E0)) : tPropU C1 C2 sp1 sp2 ta σ H Q := q
theorem rd_ckw {r : List V → List V → Hp → VK → Prop} {t tk : TA} {σ : L2.St} {H : Hp} {Q : VK} (q : t σ H fun vs H1 => tk σ H1 fun zs H2 => r vs zs H2 Q) : tCKw r t tk σ H Q := q
end Wo
end
section
namespace Wo
open PySem PySem.Spec PyProof.Rows L2
section
variable {H H' : Hp} {d : Addr} {od : Obj} {kvs : List (Key × V)} {σ : L2.St} {Q : VK}
theorem same_lockK (h : H d = some (.dK kvs)) (e : Same (upd H d (.frz od (.dK kvs))) H') : Same H (upd H' d (.dK kvs)) := fun b o q => by
  by_cases z : b = d
  · rw [z, upd_same, ← q, z, h]
  · rw [upd_ne z]
    exact e _ _ (by rw [upd_ne z]; exact q)
theorem hd_le_upd {u : HO} : Same (hd d H) (upd H d u) := fun b o q => by
  unfold hd at q
  split at q
  · cases q
  · rename_i z
    rw [upd_ne z]
    exact q
theorem lockD {te : TE} (h : H d = some (.dK kvs)) (q : ∀ od, te σ (upd H d (.frz od (.dK kvs))) fun v H' => H' d = some (.frz od (.dK kvs)) ∧ Q v (upd H' d (.dK kvs))) : tLockE te σ H Q := ⟨d, _, h, True.intro, q⟩
end
section
variable {K : PySem.W.Frag} {α : Type} {R : Rl α} [Up R] {H H1 : Hp} {as : List α} {g : TG} {te : TE} {vs : List Nat} {σ : L2.St} {Q : VK}
theorem DA.lock [Ud R] {d : Addr} {l : List (Key × α)} (h : DA R H d l) : ∃ kvs, H d = some (.dK kvs) ∧ KVs R H kvs l ∧ ∀ od, DL R (upd H d (.frz od (.dK kvs))) d l := @NI.run _ (by exact NI.carry : NI.Carry (by
  obtain ⟨kvs, a, b⟩ := h
  exact ⟨kvs, a, b, fun od => ⟨od, kvs, upd_same, Paired.mono (fun _ _ q => ⟨q.1, Up.up hd_le_upd (Ud.ud a q.2)⟩) b⟩⟩
))
theorem kvs_keys {l : List (Key × α)} : ∀ {kvs : List (Key × V)} {l : List (Key × α)}, KVs R H kvs l → kvs.map (·.1) = l.map (·.1)
  | _, _, .nil => rfl
  | _, _, .cons h t => by rw [List.map_cons, List.map_cons, h.1, kvs_keys (l := l) t]
theorem kvs_vals : ∀ {kvs : List (Key × V)} {l : List (Key × α)}, KVs R H kvs l → RAll R H (kvs.map (·.2)) (l.map (·.2))
  | _, _, .nil => .nil
  | _, _, .cons h t => .cons h.2 (kvs_vals t)
theorem wk_keysS {d : Addr} {o : Obj} {kvs : List (Key × V)} {ns : List Str} {H0 : Hp} (h : H0 d = some (.frz o (.dK kvs))) (hk : kvs.map (·.1) = ns.map Sum.inr) : Wk (Itk d o kvs) H0 RS ns := @NI.run _ (by exact NI.carry : NI.Carry (by
  have hl : kvs.length = ns.length := by have := congrArg List.length hk; simpa using this
  have at_ : ∀ {i : Nat} {x : V} {a : Str}, ns[i]? = some a → (∃ k v, kvs[i]? = some (k, v) ∧ x = kV k) → x = V.str a := by
    rintro i x a ha ⟨k, v, hk1, rfl⟩
    have h1 : (kvs.map (·.1))[i]? = some k := by rw [List.getElem?_map, hk1]; rfl
    rw [hk, List.getElem?_map, ha] at h1
    obtain rfl := Option.some.inj h1
    rfl
  refine ⟨fun i H s hi => ⟨s _ _ h, by omega⟩, fun H s => ⟨s _ _ h, by omega⟩, ?_, ?_⟩
  · rintro i H x H' a s ha ⟨rfl, hy⟩
    exact ⟨Same.refl _, at_ ha hy⟩
  · rintro i G D o x H' a s hD ha ⟨rfl, hy⟩
    exact ⟨G, Same.refl _, hD, rfl, at_ ha hy⟩
))
theorem wk_valsK {d : Addr} {od : Obj} {kvs : List (Key × V)} (h : H1 d = some (.frz od (.dK kvs))) (hr : RAll R H1 (kvs.map (·.2)) as) : Wk (Itd d od kvs) H1 R as := @NI.run _ (by exact NI.carry : NI.Carry (by
  have hl : kvs.length = as.length := by have := hr.len; rwa [List.length_map] at this
  have get : ∀ {i : Nat} {x : V} {k : Key}, kvs[i]? = some (k, x) → ∀ {a : α}, as[i]? = some a → R H1 x a := fun {i x k} hk {a} ha => by
    have : (kvs.map (·.2))[i]? = some x := by rw [List.getElem?_map, hk]; rfl
    obtain ⟨c, hc, rc⟩ := hr.get this
    rw [ha] at hc
    cases hc
    exact rc
  refine ⟨fun i H' s hi => ⟨s _ _ h, by omega⟩, fun H' s => ⟨s _ _ h, by omega⟩, fun i H' x H'' b s hb hy => ?_, fun i G D o x H'' b s hD hb hy => ?_⟩
  · obtain ⟨rfl, k, hk⟩ := hy
    exact ⟨Same.refl _, Up.up s (get hk hb)⟩
  · obtain ⟨rfl, k, hk⟩ := hy
    exact ⟨G, Same.refl _, hD, rfl, Up.up s (get hk hb)⟩
))
theorem rd_lcKyK {i : Nat} {d : Addr} {o : Obj} {kvs : List (Key × V)} (hi : σ[i]? = some (some (.ref d))) (h : H d = some (.frz o (.dK kvs))) (q : LcK (Itk d o kvs) H g te vs σ Q) : tLc (iKeys (tVar i)) g tYes (tHid te) vs σ H Q :=
  ⟨_, hi, d, o, rfl, .inl ⟨kvs, h, q⟩⟩
theorem rd_lcValK {td : TE} (q : td σ H fun x H1 => ∃ d o kvs, x = .ref d ∧ H1 d = some (.frz o (.dK kvs)) ∧ LcK (Itd d o kvs) H1 g te vs σ Q) : tLc (iVals td) g tYes (tHid te) vs σ H Q := q
end
section
variable {K : PySem.W.Frag} {H : Hp} {d : Addr} {od : Obj} {kvs : List (Key × V)} {u : HO}
theorem sql_unlockK {a : Addr} {vs : List V} (e : H d = some (.frz od (.dK kvs))) (h : SqL K H a vs) : SqL K (upd H d u) a vs := @NI.run _ (by exact NI.carry : NI.Carry (by
  rcases h with (h | ⟨o, h⟩) | h
  · exact .inl (.inl (by rw [upd_ne (fun z => by rw [z, e] at h; cases h)]; exact h))
  · exact .inl (.inr ⟨o, by rw [upd_ne (fun z => by rw [z, e] at h; cases h)]; exact h⟩)
  · exact .inr h
))
theorem rall_sameK {α : Type} {R : Rl α} {G : Hp} (hR : ∀ x a, R H x a → R G x a) : ∀ {xs : List V} {as : List α}, RAll R H xs as → RAll R G xs as
  | [], [], .nil => .nil
  | _ :: _, _ :: _, .cons h t => .cons (hR _ _ h) (rall_sameK hR t)
theorem rl_unlockK {α : Type} {R : Rl α} {x : V} {as : List α} (e : H d = some (.frz od (.dK kvs))) (hR : ∀ x a, R H x a → R (upd H d u) x a) (h : RL K R H x as) : RL K R (upd H d u) x as := @NI.run _ (by exact NI.carry : NI.Carry (by
  obtain ⟨p, vs, rfl, s, r, z⟩ := h
  exact ⟨p, vs, rfl, sql_unlockK e s, rall_sameK hR r, z⟩
))
end
end Wo
end
section
namespace Wo
open PySem PySem.Spec PyProof.Rows L2
theorem hu4 {A : Around} {k : Nat} (hr : Room k A) : A.units + 4 < cLine := @NI.run _ (by exact NI.carry : NI.Carry (by have := hr.units; omega
))
theorem hu6 {A : Around} {k : Nat} (hr : Room k A) : A.units + 6 < cLine := @NI.run _ (by exact NI.carry : NI.Carry (by have := hr.units; omega
))
end Wo
end
section
namespace Wo
open PySem PySem.Spec PyProof.Rows L2
def rDictC : List V → Hp → VK → Prop := fun xs H Q => ∃ a kvs, xs = [.ref a] ∧ Rd H a (.dK kvs) ∧ ∀ p, H p = none → Q (.ref p) (upd H p (.dK kvs))
theorem call_dictC {X : Cx} : CallR X (.type "dict") rDictC := @NI.run _ (by exact NI.carry : NI.Carry (by
  intro pins s σ H xs us Q I r h
  obtain ⟨a, kvs, rfl, hk, q⟩ := h
  obtain ⟨u, rfl, rx⟩ := vals1 r
  obtain rfl : u = Value.ref a := rx
  exact d_copyOf I hk fun p s' hp I' => ⟨.ref p, _, I', rfl, q p hp⟩
))
def RnT (X : Cx) (n : Nat) (H : Hp) (x y : V) : Prop := ∀ (A : Around) (pins : List (Addr × Obj)) (s : Shared) (σ : L2.St) (H1 : Hp) (u v : Value), Sub X n A → L2.Inv X pins σ H1 s → Same H H1 → RelV x u → RelV y v →
  wpAny (model X.prog X.w) A (richCompare .NotEq u v) (fun r s' => r = .bool false ∧ ∃ H', L2.Inv X pins σ H' s' ∧ Same H H') X.xe s
section
variable {X : Cx} {n m : Nat} {H : Hp} {x y : V}
theorem EqT.mono (h : EqT X n H x y) (hn : n ≤ m) : EqT X m H x y := fun A pins s σ H1 u v sb => h A pins s σ H1 u v (sb.mono hn)
theorem RcT.mono (h : RcT X n H x y) (hn : n ≤ m) : RcT X m H x y := fun A pins s σ H1 u v sb => h A pins s σ H1 u v (sb.mono hn)
theorem rcT_own {C g : Addr} {sp : Sp} (F : FnR X.prog X.w X.K X.mg X.base (CXW X.prog X.w) n g sp) (O : OwnM X.K C "__eq__" g) {p q dx dy : Addr} {vs ws : List (Option V)} (s1 : SlX.Slt H p C dx vs) (s2 : SlX.Slt H q C dy ws)
    (h : ∀ H1, Same H H1 → sp [.ref p, .ref q] H1 (fun v H' => v = .bl true ∧ Same H H') E0) : RcT X n H (.ref p) (.ref q) := @NI.run _ (by exact NI.carry : NI.Carry (by
  intro A pins s σ H1 u v sb I e rx ry
  cases rx
  cases ry
  obtain ⟨sl, od, _, J, _⟩ := SlX.slt_inst I (Slt.up e s1)
  obtain ⟨sl', od', _, J', _⟩ := SlX.slt_inst I (Slt.up e s2)
  obtain ⟨m, hF⟩ := I.fr
  have e0 : Env0 X.prog X.w X.K X.mg X.base A X.stack s H1 := by
    have e := I.env0
    exact ⟨by rw [sb.fr]; exact e.frames, e.mod, e.bs, e.bsz, e.funs, e.frf, e.hok, e.bare⟩
  refine PySem.W.cmp_K (op := .Eq) (tb := .ref C) sb.room.units0 hF I.ok.mod.kin J J'.type (by simp [PySem.W.notFirst]) O.at_ O.fn ?_
  refine wpAny_mono (wpAny_call (SlX.run_at (A := A) (us := [.ref p, .ref q]) (ws := [.ref p, .ref q]) (Q := fun v H' => v = .bl true ∧ Same H H') (E := E0) F sb.room e0 passF I (.cons rfl (.cons rfl .nil)) (h H1 e))) (fun w s' z => ?_) fun _ _ x => x
  obtain ⟨z', H', I', rz, ez, eH⟩ := z
  subst ez
  cases (show w = Value.bool _ from rz)
  exact ⟨rfl, H', I', eH⟩
))
theorem rnT_lst {p q : Addr} {xs ys : List V} (h : Paired (EqT X n H) xs ys) (sq1 : SqL X.K H p xs) (sq2 : SqL X.K H q ys) : RnT X (n + 1) H (.ref p) (.ref q) := @NI.run _ (by exact NI.carry : NI.Carry (by
  intro A pins s σ H1 u v sb I e rx ry
  cases rx
  cases ry
  have hlen := paired_len h
  have look : ∀ s' : Shared, (∃ H', L2.Inv X pins σ H' s' ∧ Same H H') → ∃ its its2 m1 m2 sl1 sl2, Vals xs its ∧ Vals ys its2 ∧ s'.heap.get? p = some { cls := .type "list", data := .seq its.toArray m1, slots := sl1 } ∧ s'.heap.get? q = some { cls := .type "list", data := .seq its2.toArray m2, slots := sl2 } := fun s' ⟨H', I', e'⟩ => by
    obtain ⟨its, m1, sl1, v1, e1⟩ := I'.plist (Same.seq e' sq1)
    obtain ⟨its2, m2, sl2, v2, e2⟩ := I'.plist (Same.seq e' sq2)
    exact ⟨its, its2, m1, m2, sl1, sl2, v1, v2, e1, e2⟩
  obtain ⟨its0, its02, m01, m02, s01, s02, v01, v02, e01, e02⟩ := look s ⟨H1, I, e⟩
  refine wpAny_richCompare_same_room (op := .NotEq) ⟨_, e01, rfl⟩ ⟨_, e02, rfl⟩ F.slot_list_ne (GQ.call_here F.slot_list_ne ⟨_, e01, rfl⟩ F.entry_list_ne (F.args_list_ne_2 _ _) ?_) sb.room.units0
  refine list_neB (R := wants (fun v s' => v ≠ .notImplemented ∧ v = .bool false ∧ ∃ H', L2.Inv X pins σ H' s' ∧ Same H H') X.xe) p q xs.length (fun i s' => ∃ H', L2.Inv X pins σ H' s' ∧ Same H H') (fun i s' l => ?_) (fun s' l => ?_) ⟨H1, I, e⟩
  · obtain ⟨its, its2, m1, m2, sl1, sl2, v1, v2, e1, e2⟩ := look s' l
    refine ⟨its.toArray, its2.toArray, m1, m2, sl1, sl2, e1, e2, by rw [List.size_toArray, ← v1.length], by rw [List.size_toArray, ← v2.length, hlen], fun k1 k2 => ?_⟩
    refine wpAny_mono (turnT sb h v1 v2 i k1 k2 s' l) (fun r s2 z => ?_) fun _ _ x => x
    obtain ⟨hr, z⟩ := z
    subst hr
    exact z
  · exact ⟨(fun x => nomatch x), rfl, l⟩
))
end
section
open Builtin.Dict
variable {X : Cx} {n : Nat} {H : Hp} {pins : List (Addr × Obj)} {σ : L2.St} {s : Shared} {A : Around} {a b : Addr} {oa ob : Obj} {ka kb : List (Key × V)}
theorem frz_dict {d : Addr} {od : Obj} {kvs : List (Key × V)} (I : L2.Inv X pins σ H s) (h : H d = some (.frz od (.dK kvs))) : s.heap.get? d = some od ∧ (d == sysModules) = false ∧ kvs.length ≤ sizeLine ∧ s.TypeIs (.ref d) "dict" ∧ ∃ vs, KV kvs vs ∧ s.heap.DictOf (mixKind X.prog X.w) d vs := @NI.run _ (by exact NI.carry : NI.Carry (by
  obtain ⟨e, x⟩ := (show ObjOk X.prog X.w H s.heap d (.frz od (.dK kvs)) from I.hok d _ h)
  obtain ⟨z, hd, vs, rel, dd⟩ := dk_rd I.hok (.inr ⟨od, h⟩)
  exact ⟨e, hd, z, dd.typeIs, vs, rel, dd⟩
))
theorem samePairsT {nm : String} (sb : Sub X n A) (I : L2.Inv X pins σ H s) (ha : H a = some (.frz oa (.dK ka))) (hb : H b = some (.frz ob (.dK kb))) (hlen : ka.length = kb.length)
    (hits : ∀ (i : Nat) (k : Key) (v : V), ka[i]? = some (k, v) → ∃ y, valV kb k = some y ∧ EqT X n H v y) :
    wpAny (model X.prog X.w) A (Builtin.Dict.samePairs nm a b) (fun r s' => r = true ∧ ∃ H', L2.Inv X pins σ H' s' ∧ Same H H') X.xe s := @NI.run _ (by exact NI.carry : NI.Carry (by
  obtain ⟨ga, sa, za, _, va, ra, da⟩ := frz_dict I ha
  obtain ⟨gb, sb', zb, _, vb, rb, db⟩ := frz_dict I hb
  obtain ⟨oa', es, ep, hoa, _, hda, hka, hpa, _⟩ := da
  obtain ⟨ob', es', ep', hob, _, hdb, hkb, hpb, _⟩ := db
  obtain rfl : oa = oa' := Option.some.inj (ga.symm.trans hoa)
  obtain rfl : ob = ob' := Option.some.inj (gb.symm.trans hob)
  have look : ∀ s' : Shared, (∃ H', L2.Inv X pins σ H' s' ∧ Same H H') → s'.heap.get? a = some oa ∧ s'.heap.get? b = some ob := fun s' ⟨H', I', e'⟩ => ⟨(frz_dict I' (e' _ _ ha)).1, (frz_dict I' (e' _ _ hb)).1⟩
  have hla : ka.length = es.size := by rw [ra.length, ← hpa.length]; exact Array.length_toList
  have hlb : kb.length = es'.size := by rw [rb.length, ← hpb.length]; exact Array.length_toList
  have hfind : ∀ k, findBy (mixKind X.prog X.w).is es' k = valueAt vb k := fun k => by
    rw [← hpb.find k]
    clear hlb hpb hkb hdb hob
    obtain ⟨l⟩ := es'
    simp [findBy]
  have hsz : es.size = es'.size := by omega
  unfold Builtin.Dict.samePairs Builtin.Dict.showsAll
  rw [if_neg (show ¬ (a == sysModules) = true by rw [sa]; exact Bool.false_ne_true), if_neg (show ¬ (b == sysModules) = true by rw [sb']; exact Bool.false_ne_true)]
  refine wpAny_bind (wpAny_pure (wpAny_bind (wpAny_pure ?_)))
  refine wpAny_bind (wpAny_dictEntries hoa hda ?_)
  dsimp only
  refine wpAny_bind (wpAny_dictEntries hob hdb ?_)
  rw [if_neg (by rw [hsz]; simp)]
  refine wpAny_bind (wpAny_dictEpoch hoa hda ?_)
  refine wpAny_bind ?_
  rw [Std.Legacy.Range.forIn_eq_forIn_range']
  simp only [Std.Legacy.Range.size, Nat.sub_zero, Nat.add_sub_cancel, Nat.div_one]
  refine wpAny_forIn_list _
    (fun rest q s' => (∃ H', L2.Inv X pins σ H' s' ∧ Same H H') ∧ q = (none, ()) ∧ ∃ i, rest = List.range' i (es.size - i) ∧ i ≤ es.size)
    _ ?_ ?_ _ _ ⟨⟨H, I, Same.refl H⟩, rfl, 0, by simp, Nat.zero_le _⟩
  · rintro x rest q s' ⟨l, rfl, i, hr, hi⟩
    have hlt : i < es.size := by
      rcases Nat.lt_or_ge i es.size with h | h
      · exact h
      · rw [Nat.sub_eq_zero_of_le h] at hr; simp at hr
    obtain ⟨rfl, hrest⟩ : x = i ∧ rest = List.range' (i + 1) (es.size - (i + 1)) := by
      have e : es.size - i = (es.size - (i + 1)) + 1 := by omega
      rw [e, List.range'_succ] at hr
      injection hr with h1 h2
      exact ⟨h1, h2⟩
    obtain ⟨l1, l2⟩ := look s' l
    refine wpAny_bind (wpAny_dictEntries l1 hda ?_)
    rw [Array.getElem?_eq_getElem hlt]
    have hlt' : x < ka.length := by rw [hla]; exact hlt
    obtain ⟨k, v, hkv⟩ : ∃ k v, ka[x] = (k, v) := ⟨_, _, rfl⟩
    have hkv' : ka[x]? = some (k, v) := by rw [List.getElem?_eq_getElem hlt', hkv]
    obtain ⟨⟨k0, u⟩, hku, ek, ru⟩ := paired_at ra hkv'
    simp only at ek ru
    obtain ⟨hkey, hval⟩ := hpa.get? (i := x) (e := es[x]) (k := k0) (v := u) (by rw [Array.getElem?_toList]; exact Array.getElem?_eq_getElem hlt) hku
    obtain ⟨k', hk', hh⟩ := hka es[x] (Array.getElem_mem hlt)
    have ekk : k' = k0 := (mixKind X.prog X.w).inj _ _ _ hk' hkey
    rw [ekk] at hh
    obtain ⟨y, hy, he⟩ := hits x k v hkv'
    show wpAny _ _ (holding [es[x].key, es[x].val] _ >>= _) _ _ _
    rw [hh]
    refine wpAny_bind (wpAny_holding (wpAny_bind (wpAny_dictFind_of hkey l2 hdb hkb ?_)))
    obtain ⟨y', hy', ry⟩ := RelO.some_of (v := y) (o := valueAt vb k) (by rw [← hy]; exact rb.val k)
    rw [ek] at hy'
    cases hj : es'.findIdx? fun e => (mixKind X.prog X.w).is k0 e.key with
    | none =>
      have hn : valueAt vb k0 = none := by rw [← hfind k0, findBy_of_findIdx?, hj]
      rw [hn] at hy'
      exact nomatch hy'
    | some j =>
      obtain ⟨hjlt, _, _⟩ := Array.findIdx?_eq_some_iff_getElem.mp hj
      have hv' : valueAt vb k0 = some es'[j].val := by
        rw [← hfind k0, findBy_of_findIdx?, hj]
        simp [Array.getElem?_eq_getElem hjlt]
      refine wpAny_bind (wpAny_dictEntries l2 hdb ?_)
      rw [Array.getElem?_eq_getElem hjlt]
      have ey : es'[j].val = y' := Option.some.inj (hv'.symm.trans hy')
      obtain ⟨H', I', e'⟩ := l
      have run := he A pins s' σ H' es[x].val es'[j].val sb I' e' (by rw [hval]; exact ru) (by rw [ey]; exact ry)
      refine wpAny_holding (wpAny_mono run (fun r s2 z => ?_) fun _ _ z => z)
      obtain ⟨rfl, l3⟩ := z
      obtain ⟨m1, m2⟩ := look s2 l3
      show wpAny _ _ (if (!true) = true then _ else _) _ _ _
      rw [if_neg (by decide)]
      refine wpAny_bind (wpAny_dictEpoch m1 hda ?_)
      rw [if_neg (by simp)]
      exact wpAny_pure ⟨l3, rfl, x + 1, hrest, hlt⟩
  · rintro q s' ⟨l, rfl, i, hr, hi⟩
    exact wpAny_pure ⟨rfl, l⟩
))
theorem lock2 {α : Type} {m : Sem α} {Pr : α → Prop} {E : Value → Shared → Prop} (I : L2.Inv X pins σ H s) (ha : H a = some (.dK ka)) (hb : H b = some (.dK kb))
    (run : ∀ oa ob H2, H2 a = some (.frz oa (.dK ka)) → H2 b = some (.frz ob (.dK kb)) → Same (hd a (hd b H)) H2 → L2.Inv X pins σ H2 s → wpAny (model X.prog X.w) A m (fun r s' => Pr r ∧ ∃ H', L2.Inv X pins σ H' s' ∧ Same H2 H') E s) :
    wpAny (model X.prog X.w) A m (fun r s' => Pr r ∧ ∃ H', L2.Inv X pins σ H' s' ∧ Same H H') E s := @NI.run _ (by exact NI.carry : NI.Carry (by
  obtain ⟨oa, I1⟩ := I.lock ha True.intro
  by_cases hab : a = b
  · subst hab
    rw [ha] at hb
    cases hb
    refine wpAny_mono (run oa oa _ upd_same upd_same (fun c o q => ?_) I1) (fun r s' ⟨h1, H', I', e⟩ => ⟨h1, _, I'.unlock (e _ _ upd_same) (I.nofrz ha True.intro), same_lockK ha e⟩) fun _ _ z => z
    unfold hd at q
    by_cases hc : c = a
    · rw [if_pos hc] at q
      cases q
    · rw [if_neg hc, if_neg hc] at q
      rw [upd_ne hc]
      exact q
  · have hb1 : upd H a (.frz oa (.dK ka)) b = some (.dK kb) := by rw [upd_ne (fun z => hab z.symm)]; exact hb
    obtain ⟨ob, I2⟩ := I1.lock hb1 True.intro
    refine wpAny_mono (run oa ob _ (by rw [upd_ne hab, upd_same]) upd_same (fun c o q => ?_) I2) (fun r s' ⟨h1, H', I', e⟩ => ?_) fun _ _ z => z
    · unfold hd at q
      by_cases hc : c = a
      · rw [if_pos hc] at q
        cases q
      · by_cases hc2 : c = b
        · rw [if_neg hc, if_pos hc2] at q
          cases q
        · rw [if_neg hc, if_neg hc2] at q
          rw [upd_ne hc2, upd_ne hc]
          exact q
    · have e1 := same_lockK hb1 e
      have I3 := I'.unlock (e _ _ upd_same) (I1.nofrz hb1 True.intro)
      exact ⟨h1, _, I3.unlock (e1 _ _ upd_same) (I.nofrz ha True.intro), same_lockK ha e1⟩
))
theorem rcT_dict (ha : H a = some (.dK ka)) (hb : H b = some (.dK kb)) (hlen : ka.length = kb.length)
    (hits : ∀ H2, Same (hd a (hd b H)) H2 → ∀ (i : Nat) (k : Key) (v : V), ka[i]? = some (k, v) → ∃ y, valV kb k = some y ∧ EqT X n H2 v y) : RcT X (n + 1) H (.ref a) (.ref b) := @NI.run _ (by exact NI.carry : NI.Carry (by
  intro A pins s σ H1 u v sb I e rx ry
  cases rx
  cases ry
  refine wpAny_mono (lock2 (Pr := fun r => r = .bool true) I (e _ _ ha) (e _ _ hb) fun oa ob H2 g1 g2 e2 I2 => ?_) (fun r s' ⟨h1, H', I', e'⟩ => ⟨h1, H', I', e.trans e'⟩) fun _ _ z => z
  obtain ⟨_, _, _, ta, _⟩ := frz_dict I2 g1
  obtain ⟨_, _, _, tb, _⟩ := frz_dict I2 g2
  refine wpAny_richCompare_same_room (op := .Eq) ta tb PySem.F.slot_dict_eq (wpAny_call_entry PySem.F.slot_dict_eq ta PySem.F.entry_dict_eq ?_ (PySem.F.args_dict_eq_2 _ _)) sb.room.units0
  show wpAny _ _ (Builtin.Dict.dictSlotArgs "__eq__" ⟨[.ref a, .ref b], []⟩ >>= _) _ _ s
  refine wpAny_bind ?_
  unfold Builtin.Dict.dictSlotArgs
  refine wpAny_bind (wpAny_notOrdered_dict ta ?_)
  show wpAny _ _ (pure (Value.ref a, Value.ref b)) _ _ s
  refine wpAny_pure ?_
  refine wpAny_bind (wpAny_isInstance (T := "dict") tb PySem.F.sub_dict_dict ?_)
  simp only [Bool.not_true, Bool.false_eq_true, if_false]
  refine wpAny_bind (wpAny_pure (wpAny_bind (wpAny_pure ?_)))
  refine wpAny_bind (wpAny_mono (samePairsT sb.in1 I2 g1 g2 hlen (hits H2 ((hd_mono (hd_mono e)).trans e2))) (fun r s' z => ?_) fun _ _ z => z)
  obtain ⟨rfl, l⟩ := z
  refine wpAny_pure ⟨_, rfl, ?_, ?_⟩
  · exact fun x => nomatch x
  · exact ⟨rfl, l⟩
))
theorem rnT_dict (ha : H a = some (.dK ka)) (hb : H b = some (.dK kb)) (hlen : ka.length = kb.length)
    (hits : ∀ H2, Same (hd a (hd b H)) H2 → ∀ (i : Nat) (k : Key) (v : V), ka[i]? = some (k, v) → ∃ y, valV kb k = some y ∧ EqT X n H2 v y) : RnT X (n + 1) H (.ref a) (.ref b) := @NI.run _ (by exact NI.carry : NI.Carry (by
  intro A pins s σ H1 u v sb I e rx ry
  cases rx
  cases ry
  refine wpAny_mono (lock2 (Pr := fun r => r = .bool false) I (e _ _ ha) (e _ _ hb) fun oa ob H2 g1 g2 e2 I2 => ?_) (fun r s' ⟨h1, H', I', e'⟩ => ⟨h1, H', I', e.trans e'⟩) fun _ _ z => z
  obtain ⟨_, _, _, ta, _⟩ := frz_dict I2 g1
  obtain ⟨_, _, _, tb, _⟩ := frz_dict I2 g2
  refine wpAny_richCompare_same_room (op := .NotEq) ta tb PySem.F.slot_dict_ne (wpAny_call_entry PySem.F.slot_dict_ne ta PySem.F.entry_dict_ne ?_ (PySem.F.args_dict_ne_2 _ _)) sb.room.units0
  show wpAny _ _ (Builtin.Dict.dictSlotArgs "__ne__" ⟨[.ref a, .ref b], []⟩ >>= _) _ _ s
  refine wpAny_bind ?_
  unfold Builtin.Dict.dictSlotArgs
  refine wpAny_bind (wpAny_notOrdered_dict ta ?_)
  show wpAny _ _ (pure (Value.ref a, Value.ref b)) _ _ s
  refine wpAny_pure ?_
  refine wpAny_bind (wpAny_isInstance (T := "dict") tb PySem.F.sub_dict_dict ?_)
  simp only [Bool.not_true, Bool.false_eq_true, if_false]
  refine wpAny_bind (wpAny_pure (wpAny_bind (wpAny_pure ?_)))
  refine wpAny_bind (wpAny_mono (samePairsT sb.in1 I2 g1 g2 hlen (hits H2 ((hd_mono (hd_mono e)).trans e2))) (fun r s' z => ?_) fun _ _ z => z)
  obtain ⟨rfl, l⟩ := z
  refine wpAny_pure ⟨_, rfl, ?_, ?_⟩
  · exact fun x => nomatch x
  · exact ⟨rfl, l⟩
))
end
section
variable (P : Program) (w : World) (K : PySem.W.Frag) (mg : Str → Option Value) (base : Heap) (n : Nat) {α : Type} (R : Rl α)
def EtC : Prop := ∀ X : Cx, Lk P w K mg base X → ∀ (H : Hp) (x y : V) (a : α), R H x a → R H y a → EqT X n H x y
def RtC : Prop := ∀ X : Cx, Lk P w K mg base X → ∀ (H : Hp) (x y : V) (a : α), R H x a → R H y a → RcT X n H x y
def RnC : Prop := ∀ X : Cx, Lk P w K mg base X → ∀ (H : Hp) (x y : V) (a : α), R H x a → R H y a → RnT X n H x y
end
section
variable {P : Program} {w : World} {K : PySem.W.Frag} {mg : Str → Option Value} {base : Heap} {n m : Nat} {α β : Type} {R : Rl α} {S : Rl β}
theorem EtC.mono (h : EtC P w K mg base n R) (hn : n ≤ m) : EtC P w K mg base m R := fun X l H x y a r1 r2 => (h X l H x y a r1 r2).mono hn
theorem et_refs (hr : ∀ H x a, R H x a → ∃ p, x = .ref p) (h : RtC P w K mg base n R) : EtC P w K mg base n R := fun X l H x y a r1 r2 => by
  have z := h X l H x y a r1 r2
  obtain ⟨p, rfl⟩ := hr H x a r1
  obtain ⟨q, rfl⟩ := hr H y a r2
  exact eqT_refs z
theorem pairedT {X : Cx} (h : ∀ (H : Hp) (x y : V) (a : α), R H x a → R H y a → EqT X n H x y) {H : Hp} : ∀ {xs ys : List V} {as : List α}, RAll R H xs as → RAll R H ys as → Paired (EqT X n H) xs ys
  | _, _, _, .nil, .nil => .nil
  | _, _, _, .cons a t, .cons b u => .cons (h H _ _ _ a b) (pairedT h t u)
theorem rt_tup (h : EtC P w K mg base n R) : RtC P w K mg base (n + 1) (RT K R) := fun X l H x y a r1 r2 => by
  obtain rfl := l.k
  obtain ⟨p, xs, rfl, s1, a1, _⟩ := r1
  obtain ⟨q, ys, rfl, s2, a2, _⟩ := r2
  exact rcT_tup (pairedT (h X l) a1 a2) s1 s2
theorem rt_lst (h : EtC P w K mg base n R) : RtC P w K mg base (n + 1) (RL K R) := fun X l H x y a r1 r2 => by
  obtain rfl := l.k
  obtain ⟨p, xs, rfl, s1, a1, _⟩ := r1
  obtain ⟨q, ys, rfl, s2, a2, _⟩ := r2
  exact rcT_lst (pairedT (h X l) a1 a2) s1 s2
theorem rn_lst (h : EtC P w K mg base n R) : RnC P w K mg base (n + 1) (RL K R) := fun X l H x y a r1 r2 => by
  obtain rfl := l.k
  obtain ⟨p, xs, rfl, s1, a1, _⟩ := r1
  obtain ⟨q, ys, rfl, s2, a2, _⟩ := r2
  exact rnT_lst (pairedT (h X l) a1 a2) s1 s2
theorem et_tup (h : EtC P w K mg base n R) : EtC P w K mg base (n + 1) (RT K R) := et_refs (fun _ _ _ ⟨p, _, e, _⟩ => ⟨p, e⟩) (rt_tup h)
theorem et_lst (h : EtC P w K mg base n R) : EtC P w K mg base (n + 1) (RL K R) := et_refs (fun _ _ _ ⟨p, _, e, _⟩ => ⟨p, e⟩) (rt_lst h)
def RD (R : Rl α) : Rl (List (Key × α)) := fun H v l => ∃ d, v = .ref d ∧ DA R H d l ∧ (l.map (·.1)).Nodup
instance [Up R] : Up (RD R) := ⟨fun e ⟨d, h1, h2, h3⟩ => ⟨d, h1, h2.up e, h3⟩⟩
theorem val_find : ∀ {kvs : List (Key × V)} {l : List (Key × α)} {H : Hp} {i : Nat} {k : Key} {a : α}, KVs R H kvs l → (l.map (·.1)).Nodup → l[i]? = some (k, a) → ∃ v, valV kvs k = some v ∧ R H v a
  | _, _, _, i, k, a, .nil, _, e => by simp at e
  | (k0, v0) :: kvs, (k1, a1) :: l, H, 0, k, a, .cons h t, _, e => by
    simp at e
    obtain ⟨rfl, rfl⟩ := e
    refine ⟨v0, ?_, h.2⟩
    have h1 : k0 = k1 := h.1
    unfold valV
    rw [List.find?_cons, h1]
    simp
  | (k0, v0) :: kvs, (k1, a1) :: l, H, i + 1, k, a, .cons h t, hn, e => by
    rw [List.map_cons, List.nodup_cons] at hn
    have e' : l[i]? = some (k, a) := by simpa using e
    obtain ⟨v, h1, h2⟩ := val_find t hn.2 e'
    refine ⟨v, ?_, h2⟩
    have hk : k0 = k1 := h.1
    have hne : ¬ (k0 = k) := fun z => hn.1 (by rw [← hk, z]; exact List.mem_map.mpr ⟨(k, a), List.mem_of_getElem? e', rfl⟩)
    unfold valV at h1 ⊢
    rw [List.find?_cons]
    simp only [hne, decide_false]
    exact h1
theorem dict_hits [Up R] [Ud R] {X : Cx} {H : Hp} {a b : Addr} {l : List (Key × α)} {ka kb : List (Key × V)} (h : ∀ (H : Hp) (x y : V) (a : α), R H x a → R H y a → EqT X n H x y) (ga : H a = some (.dK ka)) (gb : H b = some (.dK kb)) (ra : KVs R H ka l) (rb : KVs R H kb l) (hn : (l.map (·.1)).Nodup) :
    ∀ H2, Same (hd a (hd b H)) H2 → ∀ (i : Nat) (k : Key) (v : V), ka[i]? = some (k, v) → ∃ y, valV kb k = some y ∧ EqT X n H2 v y := fun H2 e i k v hi => by
  have up2 : ∀ x c, R H x c → R H2 x c := fun x c r => by
    refine Up.up e ?_
    have r1 := Ud.ud gb r
    by_cases hab : a = b
    · subst hab
      have : hd a (hd a H) = hd a H := by
        funext c
        unfold hd
        by_cases hc : c = a
        · rw [if_pos hc, if_pos hc]
        · rw [if_neg hc]
      rw [this]
      exact r1
    · exact Ud.ud (d := a) (kvs := ka) (by unfold hd; rw [if_neg hab]; exact ga) r1
  obtain ⟨⟨k1, c⟩, hc, hk, rc⟩ := paired_at ra hi
  obtain ⟨y, hy, ry⟩ := val_find rb hn hc
  have hk : k = k1 := hk
  exact ⟨y, by rw [hk]; exact hy, h H2 v y c (up2 _ _ rc) (up2 _ _ ry)⟩
theorem rt_dict [Up R] [Ud R] (h : EtC P w K mg base n R) : RtC P w K mg base (n + 1) (RD R) := fun X l H x y a r1 r2 => by
  obtain ⟨p, rfl, ⟨ka, ga, ra⟩, hn⟩ := r1
  obtain ⟨q, rfl, ⟨kb, gb, rb⟩, _⟩ := r2
  exact rcT_dict ga gb ((Paired.length ra).trans (Paired.length rb).symm) (dict_hits (h X l) ga gb ra rb hn)
theorem rn_dict [Up R] [Ud R] (h : EtC P w K mg base n R) : RnC P w K mg base (n + 1) (RD R) := fun X l H x y a r1 r2 => by
  obtain ⟨p, rfl, ⟨ka, ga, ra⟩, hn⟩ := r1
  obtain ⟨q, rfl, ⟨kb, gb, rb⟩, _⟩ := r2
  exact rnT_dict ga gb ((Paired.length ra).trans (Paired.length rb).symm) (dict_hits (h X l) ga gb ra rb hn)
end
def rEqT (P : Program) (w : World) (K : PySem.W.Frag) (mg : Str → Option Value) (base : Heap) (n : Nat) : R2 := fun x y H Q => ∃ (α : Type) (R : Rl α) (a : α), RtC P w K mg base n R ∧ R H x a ∧ R H y a ∧ ∀ H', Same H H' → Q (.bl true) H'
def rNeT (P : Program) (w : World) (K : PySem.W.Frag) (mg : Str → Option Value) (base : Heap) (n : Nat) : R2 := fun x y H Q => ∃ (α : Type) (R : Rl α) (a : α), RnC P w K mg base n R ∧ R H x a ∧ R H y a ∧ ∀ H', Same H H' → Q (.bl false) H'
section
variable {X : Cx} {n : Nat} (P : Program) (w : World) (K : PySem.W.Frag) (mg : Str → Option Value) (base : Heap)
theorem eqTX (hr : Room n X.A) (hl : Lk P w K mg base X := by exact ⟨rfl, rfl, rfl, rfl, rfl⟩) : OpR X (compareOp .Eq) (rEqT P w K mg base n) := @NI.run _ (by exact NI.carry : NI.Carry (by
  intro pins s σ H x y v u Q I rx ry hq
  obtain ⟨α, R, a, c, h1, h2, q⟩ := hq
  show wpAny (model X.prog X.w) X.A (richCompare .Eq v u) (EP X pins σ Q) X.xe s
  refine wpAny_mono (c X hl H x y a h1 h2 X.A pins s σ H v u ⟨hr, rfl⟩ I (Same.refl H) rx ry) (fun r s' z => ?_) fun _ _ x => x
  obtain ⟨rfl, H', I', e⟩ := z
  exact ⟨.bl true, H', I', rfl, q H' e⟩
))
theorem neTX (hr : Room n X.A) (hl : Lk P w K mg base X := by exact ⟨rfl, rfl, rfl, rfl, rfl⟩) : OpR X (compareOp .NotEq) (rNeT P w K mg base n) := @NI.run _ (by exact NI.carry : NI.Carry (by
  intro pins s σ H x y v u Q I rx ry hq
  obtain ⟨α, R, a, c, h1, h2, q⟩ := hq
  show wpAny (model X.prog X.w) X.A (richCompare .NotEq v u) (EP X pins σ Q) X.xe s
  refine wpAny_mono (c X hl H x y a h1 h2 X.A pins s σ H v u ⟨hr, rfl⟩ I (Same.refl H) rx ry) (fun r s' z => ?_) fun _ _ x => x
  obtain ⟨rfl, H', I', e⟩ := z
  exact ⟨.bl false, H', I', rfl, q H' e⟩
))
end
theorem rd_eqT {n : Nat} {α : Type} {R : Rl α} {H : Hp} {Q : VK} {x y : V} {a : α} {P : Program} {w : World} {K : PySem.W.Frag} {mg : Str → Option Value} {base : Heap} (c : RtC P w K mg base n R) (h1 : R H x a) (h2 : R H y a) (q : ∀ H', Same H H' → Q (.bl true) H') : rEqT P w K mg base n x y H Q := ⟨α, R, a, c, h1, h2, q⟩
theorem rd_neT {n : Nat} {α : Type} {R : Rl α} {H : Hp} {Q : VK} {x y : V} {a : α} {P : Program} {w : World} {K : PySem.W.Frag} {mg : Str → Option Value} {base : Heap} (c : RnC P w K mg base n R) (h1 : R H x a) (h2 : R H y a) (q : ∀ H', Same H H' → Q (.bl false) H') : rNeT P w K mg base n x y H Q := ⟨α, R, a, c, h1, h2, q⟩
end Wo
end
section
namespace Wo
open PySem PySem.Spec PyProof.Rows L2
theorem vals_pick {xs : List V} {its : List Value} (r : Vals xs its) : ∀ idx : List Nat, Vals (idx.filterMap (xs[·]?)) (idx.filterMap (its[·]?))
  | [] => .nil
  | i :: idx => by
    rw [List.filterMap_cons, List.filterMap_cons]
    by_cases h : i < xs.length
    · obtain ⟨u, hu, ru⟩ := r.get (List.getElem?_eq_getElem h)
      rw [hu, List.getElem?_eq_getElem h]
      exact .cons ru (vals_pick r idx)
    · have h2 : ¬ i < its.length := by rw [← r.length]; exact h
      rw [List.getElem?_eq_none (by omega), List.getElem?_eq_none (by omega)]
      exact vals_pick r idx
theorem sliceB_step {i k : Int} {n : Nat} (hk : 0 < k) : sliceBounds (some i) none (some k) n = (max 0 (min (if i < 0 then i + (n : Int) else i) (n : Int)), (n : Int), k) := @NI.run _ (by exact NI.carry : NI.Carry (by
  unfold sliceBounds
  have : k > 0 := hk
  simp [this]
))
def tSlSt (K : PySem.W.Frag) (te tl ts : TE) : TE := fun σ H Q => te σ H fun x H1 => tl σ H1 fun y H2 => ∃ i, y = .int i ∧ ts σ H2 fun z H3 => ∃ k, z = .int k ∧ 0 < k ∧ ∃ a xs, x = .ref a ∧ SqL K H3 a xs ∧ ∀ ys p, (∀ v ∈ ys, v ∈ xs) → ys.length ≤ xs.length → H3 p = none → Q (.ref p) (upd H3 p (.lst ys))
section
variable {X : Cx}
theorem pe_slSt {e lo st : Expr} {te tl ts : TE} {p3 pos : Pos} (he : PE X e te) (hl : PE X lo tl) (hst : PE X st ts) : PE X (.Subscript e (.Slice (some lo) none (some st) p3) pos) (tSlSt X.K te tl ts) := @NI.run _ (by exact NI.carry : NI.Carry (by
  refine ⟨fun pins s σ H Q I h => ?_⟩
  refine Subscript_ (thn (he.run pins s σ H _ I h) fun v s1 ⟨x, H1, I1, r1, q1⟩ => ?_)
  refine wpAny_Slice (thn ((po_some hl).run pins s1 σ H1 (fun o H2 => ∃ i, o = some i ∧ ts σ H2 fun z H3 => ∃ k, z = .int k ∧ 0 < k ∧ ∃ a xs, x = .ref a ∧ SqL X.K H3 a xs ∧ ∀ ys p, (∀ v ∈ ys, v ∈ xs) → ys.length ≤ xs.length → H3 p = none → Q (.ref p) (upd H3 p (.lst ys))) I1 ?_) fun vl s2 ⟨l, H2, I2, pl, i, el, q2⟩ => ?_)
  · have : tl σ H1 fun y H2 => ∃ i, y = .int i ∧ ∃ j, (some i : Option Int) = some j ∧ ts σ H2 fun z H3 => ∃ k, z = .int k ∧ 0 < k ∧ ∃ a xs, x = .ref a ∧ SqL X.K H3 a xs ∧ ∀ ys p, (∀ v ∈ ys, v ∈ xs) → ys.length ≤ xs.length → H3 p = none → Q (.ref p) (upd H3 p (.lst ys)) := by
      have e : (fun (y : V) (H2 : Hp) => ∃ i, y = .int i ∧ ∃ j, (some i : Option Int) = some j ∧ ts σ H2 fun z H3 => ∃ k, z = .int k ∧ 0 < k ∧ ∃ a xs, x = .ref a ∧ SqL X.K H3 a xs ∧ ∀ ys p, (∀ v ∈ ys, v ∈ xs) → ys.length ≤ xs.length → H3 p = none → Q (.ref p) (upd H3 p (.lst ys))) = fun y H2 => ∃ i, y = .int i ∧ ts σ H2 fun z H3 => ∃ k, z = .int k ∧ 0 < k ∧ ∃ a xs, x = .ref a ∧ SqL X.K H3 a xs ∧ ∀ ys p, (∀ v ∈ ys, v ∈ xs) → ys.length ≤ xs.length → H3 p = none → Q (.ref p) (upd H3 p (.lst ys)) := by
        funext y H2
        refine propext ⟨fun ⟨i, h1, j, h2, h3⟩ => ⟨i, h1, h3⟩, fun ⟨i, h1, h3⟩ => ⟨i, h1, i, rfl, h3⟩⟩
      rw [e]
      exact q1
    exact this
  subst el
  refine thn (po_none.run pins s2 σ H2 (fun o H3 => o = none ∧ H3 = H2) I2 ⟨rfl, rfl⟩) fun vu s3 ⟨u, H3, I3, pu, eu, e3⟩ => ?_
  subst eu e3
  refine thn ((po_some hst).run pins s3 σ H3 (fun o H4 => ∃ k, o = some k ∧ 0 < k ∧ ∃ a xs, x = .ref a ∧ SqL X.K H4 a xs ∧ ∀ ys p, (∀ v ∈ ys, v ∈ xs) → ys.length ≤ xs.length → H4 p = none → Q (.ref p) (upd H4 p (.lst ys))) I3 ?_) fun vs s4 ⟨o, H4, I4, ps, k, eo, hk, a, xs, ex, hx, q⟩ => ?_
  · have e : (fun (z : V) (H4 : Hp) => ∃ k, z = .int k ∧ ∃ j, (some k : Option Int) = some j ∧ 0 < j ∧ ∃ a xs, x = .ref a ∧ SqL X.K H4 a xs ∧ ∀ ys p, (∀ v ∈ ys, v ∈ xs) → ys.length ≤ xs.length → H4 p = none → Q (.ref p) (upd H4 p (.lst ys))) = fun z H4 => ∃ k, z = .int k ∧ 0 < k ∧ ∃ a xs, x = .ref a ∧ SqL X.K H4 a xs ∧ ∀ ys p, (∀ v ∈ ys, v ∈ xs) → ys.length ≤ xs.length → H4 p = none → Q (.ref p) (upd H4 p (.lst ys)) := by
      funext z H4
      refine propext ⟨fun ⟨k, h1, j, h2, h3⟩ => ⟨k, h1, by cases h2; exact h3⟩, fun ⟨k, h1, h3⟩ => ⟨k, h1, k, rfl, h3⟩⟩
    show ts σ H3 fun (z : V) (H4 : Hp) => ∃ k, z = .int k ∧ ∃ j, (some k : Option Int) = some j ∧ 0 < j ∧ ∃ a xs, x = .ref a ∧ SqL X.K H4 a xs ∧ ∀ ys p, (∀ v ∈ ys, v ∈ xs) → ys.length ≤ xs.length → H4 p = none → Q (.ref p) (upd H4 p (.lst ys))
    rw [e]
    exact q2
  subst eo ex
  cases r1
  have I5 : L2.Inv X pins σ H4 { s4 with heap := s4.heap.push { cls := .type "slice", data := .fields #[vl, vu, vs] } } := I4.kept (t' := s4.toks) fun b ob q => Heap.get?_push_of_some _ q
  obtain ⟨its, r, ht, hz⟩ := I5.list hx
  have hlen := r.length
  show wpAny (model X.prog X.w) X.A (subscriptTail e (.Slice (some lo) none (some st) p3) (.ref a) (.ref s4.heap.objs.size)) (EP X pins σ Q) X.xe { s4 with heap := s4.heap.push { cls := .type "slice", data := .fields #[vl, vu, vs] } }
  refine tail_any (ops := [.ref a, .ref s4.heap.objs.size]) ht.isList.typeIs (PySem.slot_list_getitem.lookup) ?_ (by with_unfolding_all rfl)
  refine wpAny_getItem_list_slice ht.isList (Heap.IsSliceOf.new _ vl vu vs) pl pu ps (fun z => by cases z; omega) ?_ (by rw [List.size_toArray]; omega)
  have el : slicePick its.toArray (some i) none (some k) = ((sliceRange (sliceBounds (some i) none (some k) its.length).1 (sliceBounds (some i) none (some k) its.length).2.1 (sliceBounds (some i) none (some k) its.length).2.2).filterMap (its[·]?)).toArray := by
    unfold slicePick
    rw [List.size_toArray]
    congr 2
    funext j
    exact List.getElem?_toArray
  rw [el]
  generalize hidx : sliceRange (sliceBounds (some i) none (some k) its.length).1 (sliceBounds (some i) none (some k) its.length).2.1 (sliceBounds (some i) none (some k) its.length).2.2 = idx
  have hil : idx.length ≤ its.length := by
    rw [← hidx]
    refine sliceRange_length_le _ _ _ _ (fun _ => ?_) (fun z => ?_)
    · rw [sliceB_step hk]
      exact ⟨by show (0 : Int) ≤ max 0 _; omega, Int.le_refl _⟩
    · rw [sliceB_step hk] at z
      exact absurd hk z
  have hyl : (idx.filterMap (xs[·]?)).length ≤ xs.length := Nat.le_trans (List.length_filterMap_le _ _) (by omega)
  refine ⟨.ref _, _, I5.laid (t' := s4.toks) (o := .lst (idx.filterMap (xs[·]?))) (fun b ob q => Heap.get?_push_of_some _ q) (Nat.le_refl _) ?_, rfl, q _ _ (fun v hv => ?_) hyl (I5.hok.fresh (Nat.le_refl _))⟩
  · exact ⟨Nat.le_trans hyl hz, _, 0, vals_pick r idx, Heap.get?_push_size _ rfl⟩
  · obtain ⟨j, _, hj⟩ := List.mem_filterMap.mp hv
    exact List.mem_of_getElem? hj
))
end
end Wo
end
section
namespace Wo
open PySem PySem.Spec PyProof.Rows L2
theorem rd_dcKy {g : TG} {tk tv td : TE} {vs : List Nat} {σ : L2.St} {H : Hp} {Q : VK} (q : td σ H fun x H1 => ∃ d o, x = .ref d ∧ ((∃ kvs, H1 d = some (.frz o (.dK kvs)) ∧ DcK (Itk d o kvs) H1 g tk tv vs σ Q) ∨ ∃ kvs, H1 d = some (.frz o (.dT kvs)) ∧ DcK (Itkt d o kvs) H1 g tk tv vs σ Q)) : tDc (iKeys td) g tYes tk tv vs σ H Q := q
theorem rd_lcKy {g : TG} {te td : TE} {vs : List Nat} {σ : L2.St} {H : Hp} {Q : VK} (q : td σ H fun x H1 => ∃ d o, x = .ref d ∧ ((∃ kvs, H1 d = some (.frz o (.dK kvs)) ∧ LcK (Itk d o kvs) H1 g te vs σ Q) ∨ ∃ kvs, H1 d = some (.frz o (.dT kvs)) ∧ LcK (Itkt d o kvs) H1 g te vs σ Q)) : tLc (iKeys td) g tYes (tHid te) vs σ H Q := q
def RNg {α : Type} (nm : α → Str) : Rl α := fun _ v a => v = .str (nm a)
instance {α : Type} {nm : α → Str} : Up (RNg nm) := ⟨fun _ h => h⟩
theorem wk_keysG {α : Type} {nm : α → Str} {d : Addr} {o : Obj} {kvs : List (Key × V)} {as : List α} {H0 : Hp} (h : H0 d = some (.frz o (.dK kvs))) (hk : kvs.map (·.1) = as.map fun a => Sum.inr (nm a)) : Wk (Itk d o kvs) H0 (RNg nm) as := @NI.run _ (by exact NI.carry : NI.Carry (by
  have hl : kvs.length = as.length := by have := congrArg List.length hk; simpa using this
  have at_ : ∀ {i : Nat} {x : V} {a : α}, as[i]? = some a → (∃ k v, kvs[i]? = some (k, v) ∧ x = kV k) → x = V.str (nm a) := by
    rintro i x a ha ⟨k, v, hk1, rfl⟩
    have h1 : (kvs.map (·.1))[i]? = some k := by rw [List.getElem?_map, hk1]; rfl
    rw [hk, List.getElem?_map, ha] at h1
    obtain rfl := Option.some.inj h1
    rfl
  refine ⟨fun i H s hi => ⟨s _ _ h, by omega⟩, fun H s => ⟨s _ _ h, by omega⟩, ?_, ?_⟩
  · rintro i H x H' a s ha ⟨rfl, hy⟩
    exact ⟨Same.refl _, at_ ha hy⟩
  · rintro i G D o x H' a s hD ha ⟨rfl, hy⟩
    exact ⟨G, Same.refl _, hD, rfl, at_ ha hy⟩
))
section
variable {H : Hp} {d p : Addr} {od : Obj} {kvs : List (Key × V)} {u : HO}
theorem da_unlockK {α : Type} {S : Rl α} {l : List (Key × α)} (e : H d = some (.frz od (.dK kvs))) (hS : ∀ x a, S H x a → S (upd H d u) x a) (h : DA S H p l) : DA S (upd H d u) p l := @NI.run _ (by exact NI.carry : NI.Carry (by
  obtain ⟨ks, a, b⟩ := h
  have hp : p ≠ d := fun z => by rw [z, e] at a; cases a
  exact ⟨ks, by rw [upd_ne hp]; exact a, Paired.mono (fun _ _ q => ⟨q.1, hS _ _ q.2⟩) b⟩
))
theorem slt_unlock {C o dx : Addr} {vs : List (Option V)} (e : H d = some (.frz od (.dK kvs))) (h : SlX.Slt H o C dx vs) : SlX.Slt (upd H d u) o C dx vs := @NI.run _ (by exact NI.carry : NI.Carry (by
  rcases h with ⟨h1, h2⟩ | ⟨h1, h2⟩
  · have n1 : o ≠ d := fun z => by rw [z, e] at h1; cases h1
    exact .inl ⟨by rw [upd_ne n1]; exact h1, h2⟩
  · have n1 : o ≠ d := fun z => by rw [z, e] at h1; cases h1
    have n2 : dx ≠ d := fun z => by rw [z, e] at h2; cases h2
    exact .inr ⟨by rw [upd_ne n1]; exact h1, by rw [upd_ne n2]; exact h2⟩
))
theorem rq_unlock {C : Addr} {v : V} {q : Rat} (e : H d = some (.frz od (.dK kvs))) (h : RQ C H v q) : RQ C (upd H d u) v q := @NI.run _ (by exact NI.carry : NI.Carry (by
  obtain ⟨o, dx, ev, s⟩ := h
  exact ⟨o, dx, ev, slt_unlock e s⟩
))
theorem slt_lock {C o dx : Addr} {vs : List (Option V)} (e : H d = some (.dK kvs)) (h : SlX.Slt H o C dx vs) : SlX.Slt (upd H d u) o C dx vs := @NI.run _ (by exact NI.carry : NI.Carry (by
  rcases h with ⟨h1, h2⟩ | ⟨h1, h2⟩
  · have n1 : o ≠ d := fun z => by rw [z, e] at h1; cases h1
    exact .inl ⟨by rw [upd_ne n1]; exact h1, h2⟩
  · have n1 : o ≠ d := fun z => by rw [z, e] at h1; cases h1
    have n2 : dx ≠ d := fun z => by rw [z, e] at h2; cases h2
    exact .inr ⟨by rw [upd_ne n1]; exact h1, by rw [upd_ne n2]; exact h2⟩
))
theorem obn_lock {C : Addr} {v : V} {xs : List V} (e : H d = some (.dK kvs)) (h : ObN C H v xs) : ObN C (upd H d u) v xs := @NI.run _ (by exact NI.carry : NI.Carry (by
  obtain ⟨o, dx, ev, s⟩ := h
  exact ⟨o, dx, ev, slt_lock e s⟩
))
end
theorem rd_join {X : Cx} {t1 t2 : TE} {σ : L2.St} {H : Hp} {Q : VK} (q : t1 σ H fun x H1 => (∃ a, x = .str a) ∧ t2 σ H1 fun y H2 => ∃ a p, ∃ ys : List Str, x = .str a ∧ [y] = [.ref p] ∧ (SqL X.K H2 p (ys.map V.str) ∨ SqT X.K H2 p (ys.map V.str)) ∧ (ys.map (·.length)).sum + ys.length * a.length ≤ 16777216 ∧ Q (.str (Txt.join a ys)) H2) : tM1 (fun x xs H Q => ∃ a p, ∃ ys : List Str, x = .str a ∧ xs = [.ref p] ∧ (SqL X.K H p (ys.map V.str) ∨ SqT X.K H p (ys.map V.str)) ∧
      (ys.map (·.length)).sum + ys.length * a.length ≤ 16777216 ∧ Q (.str (Txt.join a ys)) H) t1 t2 σ H Q := q
def rEqDL : R2 := fun x y H Q => ∃ a b ka kb, x = .ref a ∧ y = .ref b ∧ Rd H a (.dK ka) ∧ Rd H b (.dK kb) ∧ ka.length ≠ kb.length ∧ Q (.bl false) H
theorem op_eqDL {X : Cx} {k : Nat} (hr : Room k X.A) : OpR X (compareOp .Eq) rEqDL := @NI.run _ (by exact NI.carry : NI.Carry (by
  intro pins s σ H x y v u Q I rx ry hq
  obtain ⟨a, b, ka, kb, rfl, rfl, ha, hb, hne, q⟩ := hq
  obtain rfl : v = Value.ref a := rx
  obtain rfl : u = Value.ref b := ry
  obtain ⟨_, sa, va, ra, da⟩ := dk_rd I.hok ha
  obtain ⟨_, sb, vb, rb, db⟩ := dk_rd I.hok hb
  have hl : va.length ≠ vb.length := by rw [← ra.length, ← rb.length]; exact hne
  show wpAny (model X.prog X.w) X.A (richCompare .Eq (.ref a) (.ref b)) (EP X pins σ Q) X.xe s
  refine PySem.W.rcP_dicts (r := true) sa sb da db hr.units0 (fun z => absurd z hl) X.xe _ ?_
  rw [show (va.length == vb.length && true) = false by simpa using hl]
  exact ⟨.bl false, H, I, rfl, q⟩
))
section
variable {P : Program} {w : World} {K : PySem.W.Frag} {mg : Str → Option Value} {base : Heap} {n : Nat} {α : Type} {R : Rl α}
theorem et_ei [Up R] (h : EiC P w K mg base n R) : EtC P w K mg base n R := fun X l H x y a r1 r2 A pins s σ H1 u v sb I e rx ry =>
  wpAny_mono ((h X l).1 A pins s σ H1 x y u v a a sb I rx ry (Up.up e r1) (Up.up e r2)) (fun _ _ ⟨hr, H', I', e'⟩ => ⟨hr.mpr rfl, H', I', e.trans e'⟩) fun _ _ z => z
end
theorem str_len (a b : Str) : (a ++ b).length = a.length + b.length := @NI.run _ (by exact NI.carry : NI.Carry (by
  rw [← tx_of a, ← tx_of b, tx_app, tx_len, tx_len, tx_len, List.length_append]
))
theorem str_assoc (a b c : Str) : a ++ b ++ c = a ++ (b ++ c) := @NI.run _ (by exact NI.carry : NI.Carry (by
  rw [← tx_of a, ← tx_of b, ← tx_of c, tx_app, tx_app, tx_app, tx_app, List.append_assoc]
))
theorem str_nil (a : Str) : Str.empty ++ a = a := @NI.run _ (by exact NI.carry : NI.Carry (by
  rw [show (Str.empty : Str) = tx [] from rfl, ← tx_of a, tx_app]
  rfl
))
end Wo
end
section
namespace Wo
open PySem PySem.Spec PyProof.Rows L2
section
variable {P : Program} {w : World} {K : PySem.W.Frag} {mg : Str → Option Value} {base : Heap} {k : Nat} {f : Addr} {sp spC : Sp}
theorem fnR_urnP (F : FnR P w K mg base (CXW P w) k f spC)
    (h : ∀ vs H Q E, sp vs H Q E → ∃ (p : List V → Prop) (u : Addr), H u = some (UrnO u p) ∧ ∀ xs, p xs → spC vs (upd H u (.lst xs)) (fun v H' => ∃ ys, p ys ∧ H' u = some (.lst ys) ∧ Q v (upd H' u (UrnO u p))) E0) : FnR P w K mg base (CXW P w) k f sp := @NI.run _ (by exact NI.carry : NI.Carry (by
  intro A outer s H us vs Q E hr e0 r hs
  obtain ⟨p, u, hu, h⟩ := h vs H Q E hs
  obtain ⟨xs, hp, hl⟩ := urn_lst (e0.hok u _ hu)
  have hn : ∀ b, H b = none → upd H u (.lst xs) b = none := fun b q => by
    rw [upd_ne (fun z => by rw [z, hu] at q; cases q)]
    exact q
  have nd : ∀ b o, H b = some o → o ≠ UrnO u p → upd H u (.lst xs) b = some o := fun b o q z => by
    rw [upd_ne (ne_of q hu z)]
    exact q
  have e1 : Env0 P w K mg base A outer s (upd H u (.lst xs)) := ⟨e0.frames, e0.mod, fun b o q => ⟨(e0.bs b o q).1, hn b (e0.bs b o q).2⟩, e0.bsz, e0.funs, fun b q => hn b (e0.frf b q), hok_swap e0.hok hu (fun x z => by unfold UrnO at z; cases z) (fun x z => by unfold UrnO at z; cases z) (hl _), e0.bare⟩
  refine codeAny_mono (F A outer s _ us vs _ E0 hr e1 r (h xs hp)) fun r s' hq => ?_
  cases r with
  | error e =>
    obtain ⟨a, B, H', cls, d, _, _, _, _, _, _, _, h⟩ := (show CXW P w outer _ s E0 e s' from hq)
    exact h.elim
  | ok fl =>
    cases fl with
    | ret v =>
      obtain ⟨x, H', h1, h2, un, ok, rv, ys, hy, hH, q⟩ := (show CE outer P w _ s _ v s' from hq)
      refine ⟨x, upd H' u (UrnO u p), h1, h2, ?_, ?_, rv, q⟩
      · have nu : ∀ b o, H' b = some o → o ≠ .lst ys → upd H' u (UrnO u p) b = some o := fun b o q z => by
          rw [upd_ne (ne_of q hH z)]
          exact q
        refine ⟨fun b o a c d e => un.keep b o a (hn b c) d e, fun b o a c d e => un.slot b o a (hn b c) d e, fun b o a c d => ?_, un.there, fun b zs q => ?_, fun b o v q => ?_, fun b ps q => ?_⟩
        · rw [upd_ne (fun z => by rw [z, hu] at c; cases c)]
          exact un.free b o a (hn b c) d
        · exact nu _ _ (un.tups b zs (nd _ _ q (by intro z; unfold UrnO at z; cases z))) (by intro z; cases z)
        · exact nu _ _ (un.frzs b o v (nd _ _ q (by intro z; unfold UrnO at z; cases z))) (by intro z; cases z)
        · obtain ⟨more, q2⟩ := un.tbls b ps (nd _ _ q (by intro z; unfold UrnO at z; cases z))
          exact ⟨more, nu _ _ q2 (by intro z; cases z)⟩
      · exact hok_swap ok hH (fun x z => by cases z) (fun x z => by cases z) (urn_ok hy (ok u _ hH))
    | next => exact False.elim hq
    | brk => exact False.elim hq
    | cont => exact False.elim hq
))
theorem fnR_madeP (F : FnR P w K mg base (CXW P w) k f spC)
    (h : ∀ vs H Q E, sp vs H Q E → spC vs H (fun v H' => ∃ (p : List V → Prop) (u : Addr) (ys : List V), H' u = some (.lst ys) ∧ p ys ∧ H u = none ∧ Q v (upd H' u (UrnO u p))) E0) : FnR P w K mg base (CXW P w) k f sp := @NI.run _ (by exact NI.carry : NI.Carry (by
  intro A outer s H us vs Q E hr e0 r hs
  refine codeAny_mono (F A outer s _ us vs _ E0 hr e0 r (h vs H Q E hs)) fun r s' hq => ?_
  cases r with
  | error e =>
    obtain ⟨a, B, H', cls, d, _, _, _, _, _, _, _, h⟩ := (show CXW P w outer _ s E0 e s' from hq)
    exact h.elim
  | ok fl =>
    cases fl with
    | ret v =>
      obtain ⟨x, H', h1, h2, un, ok, rv, p, u, ys, hH, hy, hn, q⟩ := (show CE outer P w _ s _ v s' from hq)
      refine ⟨x, upd H' u (UrnO u p), h1, h2, ?_, ?_, rv, q⟩
      · have nu : ∀ b o, H' b = some o → o ≠ .lst ys → upd H' u (UrnO u p) b = some o := fun b o q z => by
          rw [upd_ne (ne_of q hH z)]
          exact q
        refine ⟨un.keep, un.slot, fun b o a c d => ?_, un.there, fun b zs q => ?_, fun b o v q => ?_, fun b ps q => ?_⟩
        · have := un.free b o a c d
          rw [upd_ne (fun z => by rw [z, hH] at this; cases this)]
          exact this
        · exact nu _ _ (un.tups b zs q) (by intro z; cases z)
        · exact nu _ _ (un.frzs b o v q) (by intro z; cases z)
        · obtain ⟨more, q2⟩ := un.tbls b ps q
          exact ⟨more, nu _ _ q2 (by intro z; cases z)⟩
      · exact hok_swap ok hH (fun x z => by cases z) (fun x z => by cases z) (urn_ok hy (ok u _ hH))
    | next => exact False.elim hq
    | brk => exact False.elim hq
    | cont => exact False.elim hq
))
end
theorem lcK_inv {K : PySem.W.Frag} {α β : Type} {R : Rl α} {S : Rl β} [Up R] [Up S] {J : It} {H1 : Hp} {as : List α} {te : TE} {vs : List Nat} {σ : L2.St} {Q : VK} {i0 : Nat} (W : Wk J H1 R as) (hz : as.length ≤ sizeLine) (f : β → α) (P : β → Prop)
    (hd : ∀ v H' bs, Same H1 H' → bs.map f = as → (∀ b ∈ bs, P b) → RL K S H' v bs → Q v H')
    (hb : ∀ a G x, a ∈ as → Same H1 G → R G x a → ∀ Kt : VK, (∀ y G' b, Same G G' → S G' y b → f b = a → P b → Kt y G') → te ((wipe σ vs).set i0 (some x)) G Kt)
    (hw : ∀ v, wipe ((wipe σ vs).set i0 (some v)) vs = wipe σ vs := by intro _; rfl) : LcK J H1 (gName i0) te vs σ Q := @NI.run _ (by exact NI.carry : NI.Carry (by
  intro D hD
  refine ⟨fun i m H => m = as.length - i ∧ i ≤ as.length ∧ ∃ G acc bs, H = upd G D (.lst acc) ∧ G D = none ∧ Same H1 G ∧ bs.map f = as.take i ∧ (∀ b ∈ bs, P b) ∧ RAll S G acc bs, ⟨as.length, by simp, Nat.zero_le _, H1, [], [], rfl, hD, Same.refl _, by rw [List.take_zero]; rfl, (fun b h => by cases h), .nil⟩, ?_⟩
  rintro i m H ⟨rfl, hi, G, acc, bs, rfl, hG, s, hbl, hP, ra⟩
  have hla : acc.length = i := by
    have := congrArg List.length hbl
    rw [List.length_map, List.length_take, Nat.min_eq_left hi] at this
    rw [ra.len, this]
  by_cases hlt : i < as.length
  · refine .inr ⟨W.go i _ (s.trans (Same.new hG)) hlt, fun H' => ∃ G' acc' bs', H' = upd G' D (.lst acc') ∧ G' D = none ∧ Same H1 G' ∧ bs'.map f = as.take (i + 1) ∧ (∀ b ∈ bs', P b) ∧ RAll S G' acc' bs', ?_, ?_⟩
    · rintro H' ⟨G', acc', bs', e, h1, h2, h3, h4, h5⟩
      exact ⟨as.length - (i + 1), by omega, rfl, hlt, G', acc', bs', e, h1, h2, h3, h4, h5⟩
    · intro x H' hy
      obtain ⟨G', s2, hG', eH, rx⟩ := W.yldD i G D _ x H' as[i] s hG (by simp [hlt]) hy
      subst eH
      refine ⟨hw x, tYes_of ⟨D, acc, upd_same, ?_⟩⟩
      rw [hid_upd hG']
      refine hb as[i] G' x (List.getElem_mem hlt) (s.trans s2) rx _ fun y G2 b s3 hy2 hf hp hG2 => ?_
      refine ⟨acc, upd_same, by omega, G2, acc ++ [y], bs ++ [b], ?_, hG2, (s.trans s2).trans s3, ?_, ?_, (ra.up (s2.trans s3)).snoc hy2⟩
      · rw [upd_upd]
      · rw [List.map_append, hbl, List.take_succ, List.getElem?_eq_getElem hlt]
        show _ ++ [f b] = _
        rw [hf]
        rfl
      · intro c hc
        rcases List.mem_append.mp hc with hc | hc
        · exact hP c hc
        · obtain rfl := List.mem_singleton.mp hc
          exact hp
  · have e : i = as.length := by omega
    subst e
    rw [List.take_length] at hbl
    exact .inl ⟨W.stop _ (s.trans (Same.new hG)), hd _ _ bs (s.trans (Same.new hG)) hbl hP (RL.mk hG ra (by omega))⟩
))
end Wo
end
section
namespace Wo
open PySem PySem.Spec PyProof.Rows L2
theorem notFirst_kit {K : PySem.W.Frag} {C : Addr} {t : Value} (h : PySem.W.kitOne K t (.ref C) = some false) : PySem.W.notFirst K C t = true := @NI.run _ (by exact NI.carry : NI.Carry (by
  unfold PySem.W.kitOne at h
  split at h
  · cases h
  · unfold PySem.W.kitCls at h
    dsimp only at h
    split at h
    · unfold PySem.W.notFirst
      rw [h]
      simp
    · cases h
))
end Wo
end
section
namespace Wo
open PySem PySem.Spec PyProof.Rows L2 PySem.SeqAt
section
variable {X : Cx}
def rCatL (K : PySem.W.Frag) : R2 := fun x y H Q => ∃ a b xs ys, x = .ref a ∧ y = .ref b ∧ SqL K H a xs ∧ SqL K H b ys ∧ xs.length + ys.length ≤ sizeLine ∧ ∀ p, H p = none → Q (.ref p) (upd H p (.lst (xs ++ ys)))
theorem op_catLA : OpR X (binaryOp .Add) (rCatL X.K) := @NI.run _ (by exact NI.carry : NI.Carry (by
  intro pins s σ H x y v u Q I rx ry h
  obtain ⟨a, b, xs, ys, rfl, rfl, ha, hb, hz, q⟩ := h
  cases rx
  cases ry
  obtain ⟨its, r1, p1, _⟩ := I.list ha
  obtain ⟨its2, r2, p2, _⟩ := I.list hb
  have n1 := r1.length
  have n2 := r2.length
  refine add_listsP p1.isList p2.isList ?_ (by omega)
  exact ⟨.ref _, upd H s.heap.objs.size (.lst (xs ++ ys)), I.lnew (its := its ++ its2) (t' := s.toks) (r1.append r2) (by rw [List.length_append]; exact hz), rfl, q _ (I.hok.fresh (Nat.le_refl _))⟩
))
theorem kCatL (K : PySem.W.Frag) (h : X.K = K := by rfl) : OpR X (binaryOp .Add) (rCatL K) := @NI.run _ (by exact NI.carry : NI.Carry (by subst h; exact op_catLA
))
end
theorem rd_catL {K : PySem.W.Frag} {α : Type} {R : Rl α} [Up R] {H : Hp} {Q : VK} {x y : V} {as bs : List α} (h1 : RL K R H x as) (h2 : RL K R H y bs) (hz : as.length + bs.length ≤ sizeLine) (k : ∀ v H', Same H H' → RL K R H' v (as ++ bs) → Q v H') : rCatL K x y H Q := @NI.run _ (by exact NI.carry : NI.Carry (by
  obtain ⟨p, vs, rfl, s, r, z⟩ := h1
  obtain ⟨q, ws, rfl, s2, r2, z2⟩ := h2
  have n1 := r.len
  have n2 := r2.len
  exact ⟨p, q, vs, ws, rfl, rfl, s, s2, by omega, fun l hl => k _ _ (Same.new hl) (RL.mk hl (RAll.append r r2) (by rw [List.length_append]; omega))⟩
))
end Wo
end
section
namespace Wo
open PySem PySem.Spec PyProof.Rows L2
theorem HasTy.sqL {K : PySem.W.Frag} {H : Hp} {p : Addr} {xs : List V} (h : SqL K H p xs) : HasTy K H (.ref p) (.type "list") := @NI.run _ (by exact NI.carry : NI.Carry (by
  rcases h with (h | ⟨o, h⟩) | ⟨o, its, n, hk, hc, hd, hs, hz, r⟩
  · exact .inl (.base (.lst h))
  · exact .inl (.base (.frz h))
  · exact .inl (.kList hk hc)
))
theorem HasTy.rl {K : PySem.W.Frag} {α : Type} {R : Rl α} {H : Hp} {v : V} {as : List α} (h : RL K R H v as) : HasTy K H v (.type "list") := @NI.run _ (by exact NI.carry : NI.Carry (by
  obtain ⟨p, vs, rfl, s, _, _⟩ := h
  exact HasTy.sqL s
))
theorem RL.at3 {K : PySem.W.Frag} {α : Type} {R : Rl α} {H : Hp} {v : V} {as : List α} (h : RL K R H v as) : ∃ p xs, v = .ref p ∧ (SqL K H p xs ∨ SqT K H p xs) := @NI.run _ (by exact NI.carry : NI.Carry (by
  obtain ⟨p, vs, rfl, s, _, _⟩ := h
  exact ⟨p, vs, rfl, .inl s⟩
))
theorem RT.at3 {K : PySem.W.Frag} {α : Type} {R : Rl α} {H : Hp} {v : V} {as : List α} (h : RT K R H v as) : ∃ p xs, v = .ref p ∧ (SqL K H p xs ∨ SqT K H p xs) := @NI.run _ (by exact NI.carry : NI.Carry (by
  obtain ⟨p, vs, rfl, s, _, _⟩ := h
  exact ⟨p, vs, rfl, .inr s⟩
))
section
variable {X : Cx} {k : Nat} {g C : Addr} {sp : Sp}
def rEqN3 (K : PySem.W.Frag) (C : Addr) (sp : Sp) : R2 := fun x y H Q => Own C H x ∧ (Rt C H y ∨ (∃ C2, Own C2 H y ∧ PySem.W.kitOne K (.ref C2) (.ref C) = some false) ∨ ∃ p xs, y = .ref p ∧ (SqL K H p xs ∨ SqT K H p xs)) ∧ sp [x, y] H (fun z H' => ∃ b, z = .bl b ∧ Q (.bl b) H') E0
theorem op_eqN3 (F : FnR X.prog X.w X.K X.mg X.base (CXW X.prog X.w) k g sp) (O : OwnM X.K C "__eq__" g) (hr : Room k X.A) : OpR X (compareOp .Eq) (rEqN3 X.K C sp) := @NI.run _ (by exact NI.carry : NI.Carry (by
  intro pins s σ H x y v u Q I rx ry h
  obtain ⟨⟨p1, d1, vs, rfl, s1'⟩, hy, q⟩ := h
  cases (show v = Value.ref p1 from rx)
  obtain ⟨sl, od, _, J, _⟩ := SlX.slt_inst I s1'
  obtain ⟨m', hF⟩ := I.fr
  obtain ⟨tb, hb, hn⟩ : ∃ tb, PySem.W.Looks (model X.prog X.w) s.heap (typeOf u) tb ∧ PySem.W.notFirst X.K C tb = true := by
    rcases hy with hy | ⟨C2, ⟨p2, d2, vs2, rfl, s2'⟩, hk⟩ | ⟨p, xs, rfl, hp⟩
    · exact hy.looks I ry
    · cases (show u = Value.ref p2 from ry)
      obtain ⟨sl2, od2, _, J2, _⟩ := SlX.slt_inst I s2'
      exact ⟨_, J2.type, notFirst_kit hk⟩
    · cases (show u = Value.ref p from ry)
      rcases hp with hp | hp
      · obtain ⟨its, r, ⟨o, n, e, hc, _⟩, _⟩ := I.list hp
        refine ⟨.type "list", ?_, by rfl⟩
        rw [← hc]
        exact (PySem.W.Looks.ld e).andThen .now
      · obtain ⟨its, r, ⟨o, e, hc, _⟩, _⟩ := I.tuple hp
        refine ⟨.type "tuple", ?_, by rfl⟩
        rw [← hc]
        exact (PySem.W.Looks.ld e).andThen .now
  show wpAny _ _ (richCompare .Eq (.ref p1) u) _ _ _
  refine PySem.W.cmp_K (op := .Eq) hr.units0 hF I.ok.mod.kin J hb hn O.at_ O.fn (wpAny_mono (wpAny_call (SlX.run_at (us := [.ref p1, u]) (ws := [.ref p1, y]) F hr I.env0 passF I (.cons rfl (.cons ry .nil)) q)) (fun w s' z => ?_) fun _ _ x => x)
  obtain ⟨z', H', I', rz, b, ez, qz⟩ := z
  subst ez
  cases (show w = Value.bool b from rz)
  exact ⟨.bl b, H', I', rfl, qz⟩
))
theorem kEqN3 {K : PySem.W.Frag} (F : FnR X.prog X.w X.K X.mg X.base (CXW X.prog X.w) k g sp) (O : OwnM X.K C "__eq__" g) (hr : Room k X.A) (h : X.K = K := by rfl) : OpR X (compareOp .Eq) (rEqN3 K C sp) := @NI.run _ (by exact NI.carry : NI.Carry (by subst h; exact op_eqN3 F O hr
))
end
end Wo
end
section
namespace LW
open PySem PySem.Spec PyProof.Rows L2 Wo
local macro_rules | `(tactic| walk_at "lf") => `(tactic| first | assumption | (refine Up.up (by assumption) ?_; walk_at "lf") | (refine RAll.up (by assumption) ?_; walk_at "lf") | (refine Ob2.up (by assumption) ?_; walk_at "lf"))
local macro_rules | `(tactic| walk_at "side") => `(tactic| first | (unfold CMul; omega) | (unfold CDiv; omega) | (unfold CDivN; omega) | (unfold CPow; omega) | (show (0 : Int) < _; omega) | decide)
local macro_rules | `(tactic| walk_at "rd1") => `(tactic| first
  | ((with_reducible refine rd_var (v := ?v) ?h ?_); (case h => rfl))
  | with_reducible refine rd_c ?_
  | with_reducible refine rd_op ?_
  | with_reducible refine rd_I0 ?_
  | with_reducible refine rd_I ?_ ?_
  | with_reducible refine rd_U ?_
  | with_reducible refine rd_eqI ?_
  | with_reducible refine rd_neI ?_
  | with_reducible refine rd_eqS ?_
  | with_reducible refine rd_neS ?_
  | with_reducible refine rd_un ?_
  | with_reducible refine rd_test ?_
  | with_reducible refine rd_tB ?_
  | with_reducible refine rd_exB ?_
  | with_reducible refine rd_cons ?_
  | with_reducible refine rd_nil ?_
  | with_reducible refine rd_call ?_
  | with_reducible refine rd_cb ?_
  | with_reducible refine rd_seq ?_
  | with_reducible refine rd_asg ?_
  | with_reducible refine rd_gname ?_
  | with_reducible refine rd_ret ?_
  | with_reducible refine rd_ifS ?_
  | with_reducible refine rd_next ?_
  | with_reducible refine rd_drop ?_
  | with_reducible refine rd_if ?_
  | with_reducible refine rd_not ?_
  | with_reducible refine rd_and ?_
  | with_reducible refine rd_or ?_
  | with_reducible refine rd_andV ?_
  | with_reducible refine rd_orV ?_
  | with_reducible refine rd_notV ?_
  | with_reducible refine rd_chain ?_
  | with_reducible refine rd_slot ?_
  | with_reducible refine rd_sst ?_
  | with_reducible refine rd_par ?_
  | with_reducible refine rd_ex2 ?_
  | with_reducible refine rd_gcd ?_
  | with_reducible refine rd_prop ?_
  | with_reducible refine rd_sub ?_
  | with_reducible refine rd_lcm ?_ ?_
  | with_reducible refine rd_forL ?_
  | with_reducible refine rd_forT ?_
  | with_reducible refine rd_forR1 ?_
  | with_reducible refine rd_forZ ?_
  | with_reducible refine rd_lcL ?_
  | with_reducible refine rd_lcT ?_
  | with_reducible refine rd_lcR1 ?_
  | with_reducible refine rd_lcR2 ?_
  | with_reducible refine rd_lcZ ?_
  | with_reducible refine rd_lc2TT ?_
  | with_reducible refine rd_abs ?_
  | with_reducible refine rd_int ?_
  | with_reducible refine rd_intB ?_
  | with_reducible refine rd_max2 ?_
  | with_reducible refine rd_min2 ?_
  | with_reducible refine rd_tup ?_
  | with_reducible refine rd_lst ?_
  | with_reducible refine ite_T ?_
  | with_reducible refine ite_n ?_
  | with_reducible refine ite_y ?_
  | with_reducible refine ite_F ?_
  | with_reducible refine rd_retN ?_)
local macro_rules | `(tactic| walk_at "rd") => `(tactic| repeat walk_at "rd1")
local macro_rules | `(tactic| walk_at "sd") => `(tactic| first | exact Or.inl ⟨by decide, by decide⟩ | exact Or.inr ⟨by decide, by decide⟩ | (show (0 : Int) < _; decide +kernel) | exact ⟨by decide, by decide, by decide +kernel⟩ | exact ⟨by decide, by decide +kernel⟩)
section
variable {P : Program} {w : World} {K : PySem.W.Frag} {mg : Str → Option Value} {base : Heap}
def sp_Lowest___init__ (K : PySem.W.Frag) : Sp := sp_init2 (gA "Lowest" K)
abbrev n_Lowest___init__ : List Str := ["self", "top", "bottom"]
theorem sc_Lowest___init__ : FnScope n_Lowest___init__ ["self", "top", "bottom"] (defScope s_Lowest___init__) := ⟨rfl, rfl, rfl, by decide +kernel, rfl, by decide +kernel, by decide +kernel⟩
theorem cal_Lowest___init__ (T : Tx P K mg) : FnR P w K mg base (CXW P w) 1 (mA "Lowest" "__init__" K) (sp_Lowest___init__ K) := @NI.run _ (by exact NI.carry : NI.Carry (by
  refine fnR_of (k := 0) T.D_Lowest___init__ sc_Lowest___init__ (fun _ _ _ _ _ _ us hl => match us, hl with | [_, _, _], _ => rfl) (fun vs H Q E h => ?_) (fun cdv A outer s H vs Q E hr h => ?_)
  · obtain ⟨v0, v1, v2, rfl, _⟩ := h
    rfl
  obtain ⟨v0, v1, v2, rfl, h⟩ := h
  refine ⟨_, pss_cons (SlX.ps_sl (pv 0) (pv 1))
      (pss_one (SlX.ps_sl (pv 0) (pv 2))), ?_⟩
  obtain ⟨y, dx, rfl, hne, hy, k⟩ := h
  obtain ⟨p0, q0⟩ := T.C_Lowest.s0
  obtain ⟨p1, q1⟩ := T.C_Lowest.s1
  walk_at "rd"
  refine ⟨y, _, dx, _, [], _, rfl, .inl ⟨hy, rfl⟩, T.C_Lowest.cl, q1, ?_⟩
  walk_at "rd"
  refine ⟨y, _, dx, _, _, _, rfl, SlX.slH_slt hne, T.C_Lowest.cl, q0, ?_⟩
  rw [SlX.slH_twice hne]
  exact k _ (SlX.slH_slt hne) fun c o e h1 h2 => by rw [SlX.slH_ne h1 h2]; exact e
))
def sp_Lowest (K : PySem.W.Frag) : Sp := sp2 fun a b H Q _ => ∀ v H', Same H H' → Ob2 (gA "Lowest" K) H' v b a → Q v H'
theorem ctor_Lowest (T : Tx P K mg) : Ctor P w K mg base 1 "Lowest" (sp_Lowest K) := ctor2 T.G_Lowest T.C_Lowest (cal_Lowest___init__ T)
def sp_lowest_of (K : PySem.W.Frag) : Sp := sp2 fun x y H Q _ => ∃ t b : Int, x = .int t ∧ y = .int b ∧ b ≠ 0 ∧ t.natAbs < 2 ^ 13500 ∧ b.natAbs < 2 ^ 13500 ∧ ∀ v H', Same H H' → RQ (gA "Lowest" K) H' v (Rat.divInt t b) → Q v H'
abbrev n_lowest_of : List Str := ["top", "bottom", "shared"]
theorem sc_lowest_of : FnScope n_lowest_of ["top", "bottom"] (defScope s_lowest_of) := ⟨rfl, rfl, rfl, by decide +kernel, rfl, by decide +kernel, by decide +kernel⟩
theorem cal_lowest_of (T : Tx P K mg) : Cal P w K mg base 3 "lowest_of" (sp_lowest_of K) := @NI.run _ (by exact NI.carry : NI.Carry (by
  refine cal_of (k := 2) T.G_lowest_of T.D_lowest_of sc_lowest_of (fun _ _ _ _ _ _ us hl => match us, hl with | [_, _], _ => rfl) (fun vs H Q E h => ?_) (fun cdv A outer s H vs Q E hr h => ?_)
  · obtain ⟨v0, v1, rfl, _⟩ := h
    rfl
  obtain ⟨v0, v1, rfl, h⟩ := h
  refine ⟨_, pss_cons (ps_set (i := 2) sc_lowest_of.nd rfl (by first | exact Or.inl rfl | exact Or.inr rfl) (pe_callBfun cr_gcd (by rfl) T.B_gcd (pa_cons (pv 0) (pa_cons (pv 1) pa_nil))))
      (pss_cons (ps_if (pt_cmpR op_lt (pv 1) pe_int (nomark _))
        (pss_one (ps_set (i := 2) sc_lowest_of.nd rfl (by first | exact Or.inl rfl | exact Or.inr rfl) (pe_un un_neg (pv 2))))
        (pss_nil))
      (pss_one (ps_ret (pm (ctor_Lowest T) hr (pa_cons (pe_op op_fdivA (pv 0) (pv 2)) (pa_cons (pe_op op_fdivA (pv 1) (pv 2)) pa_nil)))))), ?_⟩
  obtain ⟨t, b, rfl, rfl, hb, ht, hs, k⟩ := h
  obtain ⟨g1, g2, g3⟩ := gcd_lt2 (t := t) hb hs
  walk_at "rd"
  refine ite_dec (fun hn => ?_) (fun hn => ?_)
  · walk_at "rd"
    · exact ⟨_, _, rfl, fun v H' e hv => k v H' e (by unfold RQ; rw [low_numN hn, low_denN hn]; exact hv)⟩
    · exact div_near (by omega) hs
    · exact div_near (by omega) ht
  · walk_at "rd"
    · exact ⟨_, _, rfl, fun v H' e hv => k v H' e (by unfold RQ; rw [low_num (by omega), low_den (by omega)]; exact hv)⟩
    · exact div_near g3 hs
    · exact div_near g3 ht
))
end
end LW
end
section
set_option exponentiation.threshold 20000
namespace LW
open PySem PySem.Spec PyProof.Rows L2 Wo
local macro_rules | `(tactic| walk_at "lf") => `(tactic| first | assumption | (refine Up.up (by assumption) ?_; walk_at "lf") | (refine RAll.up (by assumption) ?_; walk_at "lf") | (refine Ob2.up (by assumption) ?_; walk_at "lf"))
local macro_rules | `(tactic| walk_at "side") => `(tactic| first | (unfold CMul; omega) | (unfold CDiv; omega) | (unfold CDivN; omega) | (unfold CPow; omega) | (show (0 : Int) < _; omega) | decide)
local macro_rules | `(tactic| walk_at "rd1") => `(tactic| first
  | ((with_reducible refine rd_var (v := ?v) ?h ?_); (case h => rfl))
  | with_reducible refine rd_c ?_
  | with_reducible refine rd_op ?_
  | with_reducible refine rd_I0 ?_
  | with_reducible refine rd_I ?_ ?_
  | with_reducible refine rd_U ?_
  | with_reducible refine rd_eqI ?_
  | with_reducible refine rd_neI ?_
  | with_reducible refine rd_eqS ?_
  | with_reducible refine rd_neS ?_
  | with_reducible refine rd_un ?_
  | with_reducible refine rd_test ?_
  | with_reducible refine rd_tB ?_
  | with_reducible refine rd_exB ?_
  | with_reducible refine rd_cons ?_
  | with_reducible refine rd_nil ?_
  | with_reducible refine rd_call ?_
  | with_reducible refine rd_cb ?_
  | with_reducible refine rd_seq ?_
  | with_reducible refine rd_asg ?_
  | with_reducible refine rd_gname ?_
  | with_reducible refine rd_ret ?_
  | with_reducible refine rd_ifS ?_
  | with_reducible refine rd_next ?_
  | with_reducible refine rd_drop ?_
  | with_reducible refine rd_if ?_
  | with_reducible refine rd_not ?_
  | with_reducible refine rd_and ?_
  | with_reducible refine rd_or ?_
  | with_reducible refine rd_andV ?_
  | with_reducible refine rd_orV ?_
  | with_reducible refine rd_notV ?_
  | with_reducible refine rd_chain ?_
  | with_reducible refine rd_slot ?_
  | with_reducible refine rd_sst ?_
  | with_reducible refine rd_par ?_
  | with_reducible refine rd_ex2 ?_
  | with_reducible refine rd_gcd ?_
  | with_reducible refine rd_prop ?_
  | with_reducible refine rd_sub ?_
  | with_reducible refine rd_lcm ?_ ?_
  | with_reducible refine rd_forL ?_
  | with_reducible refine rd_forT ?_
  | with_reducible refine rd_forR1 ?_
  | with_reducible refine rd_forZ ?_
  | with_reducible refine rd_lcL ?_
  | with_reducible refine rd_lcT ?_
  | with_reducible refine rd_lcR1 ?_
  | with_reducible refine rd_lcR2 ?_
  | with_reducible refine rd_lcZ ?_
  | with_reducible refine rd_lc2TT ?_
  | with_reducible refine rd_abs ?_
  | with_reducible refine rd_int ?_
  | with_reducible refine rd_intB ?_
  | with_reducible refine rd_max2 ?_
  | with_reducible refine rd_min2 ?_
  | with_reducible refine rd_tup ?_
  | with_reducible refine rd_lst ?_
  | with_reducible refine ite_T ?_
  | with_reducible refine ite_n ?_
  | with_reducible refine ite_y ?_
  | with_reducible refine ite_F ?_
  | with_reducible refine rd_retN ?_)
local macro_rules | `(tactic| walk_at "rd") => `(tactic| repeat walk_at "rd1")
local macro_rules | `(tactic| walk_at "sd") => `(tactic| first | exact Or.inl ⟨by decide, by decide⟩ | exact Or.inr ⟨by decide, by decide⟩ | (show (0 : Int) < _; decide +kernel) | exact ⟨by decide, by decide, by decide +kernel⟩ | exact ⟨by decide, by decide +kernel⟩)
section
variable {P : Program} {w : World} {K : PySem.W.Frag} {mg : Str → Option Value} {base : Heap}
theorem lt60 {i : Int} (h : -(10 ^ 60) < i ∧ i < 10 ^ 60) : i.natAbs < 2 ^ 13500 := @NI.run _ (by exact NI.carry : NI.Carry (by
  have p : (10 : Nat) ^ 60 < 2 ^ 200 := by decide +kernel
  have q : (2 : Nat) ^ 200 < 2 ^ 13500 := Nat.pow_lt_pow_right (by decide) (by decide)
  have r : i.natAbs < 10 ^ 60 := by omega
  omega
))
def sp_is_integer (K : PySem.W.Frag) : Sp := sp1 fun x H Q _ => ∃ i : Int, x = .int i ∧ Q (.bl (decide (-(10 ^ 60) < i ∧ i < 10 ^ 60))) H
abbrev n_is_integer : List Str := ["value"]
theorem sc_is_integer : FnScope n_is_integer ["value"] (defScope s_is_integer) := ⟨rfl, rfl, rfl, by decide +kernel, rfl, by decide +kernel, by decide +kernel⟩
theorem cal_is_integer (T : Tx P K mg) : Cal P w K mg base 1 "is_integer" (sp_is_integer K) := @NI.run _ (by exact NI.carry : NI.Carry (by
  refine cal_of (k := 0) T.G_is_integer T.D_is_integer sc_is_integer (fun _ _ _ _ _ _ us hl => match us, hl with | [_], _ => rfl) (fun vs H Q E h => ?_) (fun cdv A outer s H vs Q E hr h => ?_)
  · obtain ⟨v0, rfl, _⟩ := h
    rfl
  obtain ⟨v0, rfl, h⟩ := h
  refine ⟨_, pss_one (ps_ret (pe_and (pe_callB (kIsi K) (by rfl) T.N_isinstance (by decide +kernel) (pa_cons (pv 0) (pa_cons (pe_bltn (v := .ty "int") (by rfl) T.N_int (by decide +kernel) rfl) pa_nil))) (pe_and (pe_not (pe_callB (kIsi K) (by rfl) T.N_isinstance (by decide +kernel) (pa_cons (pv 0) (pa_cons (pe_bltn (v := .ty "bool") (by rfl) T.N_bool (by decide +kernel) rfl) pa_nil)))) (pe_one (pe_chain op_lt op_lt (pe_un un_neg (pe_gI T.I_GREAT)) (pv 0) (pe_gI T.I_GREAT)))))), ?_⟩
  obtain ⟨i, rfl, k⟩ := h
  walk_at "rd"
  refine rd_isiY HasTy.int ?_ (.ty "int")
  walk_at "rd"
  refine rd_isiN HasTy.int ?_ (.ty "bool")
  walk_at "rd"
  refine ite_dec (fun h1 => ?_) (fun h1 => ?_)
  · walk_at "rd"
    have e : decide (i < 10 ^ 60) = decide (-(10 ^ 60) < i ∧ i < 10 ^ 60) := decide_eq_decide.mpr ⟨fun h => ⟨h1, h⟩, fun h => h.2⟩
    rw [e]
    exact k
  · rw [decide_eq_false (fun h => h1 h.1)] at k
    exact k
))
theorem is_integer_yes {i : Int} {H : Hp} {Q : VK} (h : -(10 ^ 60) < i ∧ i < 10 ^ 60) (q : Q (.bl true) H) : sp_is_integer K [.int i] H Q E0 := ⟨_, rfl, i, rfl, by rw [decide_eq_true h]; exact q⟩
def sp_is_within (K : PySem.W.Frag) : Sp := sp3 fun x y z H Q _ => ∃ i a b : Int, x = .int i ∧ y = .int a ∧ z = .int b ∧ (-(10 ^ 60) < i ∧ i < 10 ^ 60) ∧ Q (.bl (decide (a ≤ i ∧ i ≤ b))) H
abbrev n_is_within : List Str := ["value", "low", "high"]
theorem sc_is_within : FnScope n_is_within ["value", "low", "high"] (defScope s_is_within) := ⟨rfl, rfl, rfl, by decide +kernel, rfl, by decide +kernel, by decide +kernel⟩
theorem cal_is_within (T : Tx P K mg) : Cal P w K mg base 2 "is_within" (sp_is_within K) := @NI.run _ (by exact NI.carry : NI.Carry (by
  refine cal_of (k := 1) T.G_is_within T.D_is_within sc_is_within (fun _ _ _ _ _ _ us hl => match us, hl with | [_, _, _], _ => rfl) (fun vs H Q E h => ?_) (fun cdv A outer s H vs Q E hr h => ?_)
  · obtain ⟨v0, v1, v2, rfl, _⟩ := h
    rfl
  obtain ⟨v0, v1, v2, rfl, h⟩ := h
  refine ⟨_, pss_one (ps_ret (pe_and (pc (cal_is_integer T) hr (pa_cons (pv 0) pa_nil)) (pe_one (pe_chain op_le op_le (pv 1) (pv 0) (pv 2))))), ?_⟩
  obtain ⟨i, a, b, rfl, rfl, rfl, hi, k⟩ := h
  walk_at "rd"
  refine is_integer_yes hi ?_
  walk_at "rd"
  refine ite_dec (fun h1 => ?_) (fun h1 => ?_)
  · walk_at "rd"
    rw [show decide (i ≤ b) = decide (a ≤ i ∧ i ≤ b) from decide_eq_decide.mpr ⟨fun h => ⟨h1, h⟩, fun h => h.2⟩]
    exact k
  · rw [decide_eq_false (fun h => h1 h.1)] at k
    exact k
))
def sp_told_lowest (K : PySem.W.Frag) : Sp := sp2 fun x y H Q _ => ∃ t b : Int, x = .int t ∧ y = .int b ∧ b ≠ 0 ∧ (-(10 ^ 60) < t ∧ t < 10 ^ 60) ∧ (-(10 ^ 60) < b ∧ b < 10 ^ 60) ∧ ∀ v H', Same H H' → RQ (gA "Lowest" K) H' v (Rat.divInt t b) → Q v H'
abbrev n_told_lowest : List Str := ["top", "bottom"]
theorem sc_told_lowest : FnScope n_told_lowest ["top", "bottom"] (defScope s_told_lowest) := ⟨rfl, rfl, rfl, by decide +kernel, rfl, by decide +kernel, by decide +kernel⟩
theorem cal_told_lowest (T : Tx P K mg) : Cal P w K mg base 4 "told_lowest" (sp_told_lowest K) := @NI.run _ (by exact NI.carry : NI.Carry (by
  refine cal_of (k := 3) T.G_told_lowest T.D_told_lowest sc_told_lowest (fun _ _ _ _ _ _ us hl => match us, hl with | [_, _], _ => rfl) (fun vs H Q E h => ?_) (fun cdv A outer s H vs Q E hr h => ?_)
  · obtain ⟨v0, v1, rfl, _⟩ := h
    rfl
  obtain ⟨v0, v1, rfl, h⟩ := h
  refine ⟨_, pss_cons (ps_if (pt_not (pt_val (pc (cal_is_integer T) hr (pa_cons (pv 0) pa_nil))))
        (pss_one ps_never)
        (pss_nil))
      (pss_cons (ps_if (PW.pt (pw_or (pt_not (pt_val (pc (cal_is_integer T) hr (pa_cons (pv 1) pa_nil)))) (pw_or1 (pt_cmpR op_eq (pv 1) pe_int (nomark _)))))
        (pss_one ps_never)
        (pss_nil))
      (pss_one (ps_ret (pc (cal_lowest_of T) hr (pa_cons (pv 0) (pa_cons (pv 1) pa_nil)))))), ?_⟩
  obtain ⟨t, b, rfl, rfl, hb, ht, hb2, k⟩ := h
  walk_at "rd"
  refine is_integer_yes ht ?_
  walk_at "rd"
  refine is_integer_yes hb2 ?_
  walk_at "rd"
  refine ite_f (decide_eq_false hb) ?_
  walk_at "rd"
  exact ⟨_, _, rfl, t, b, rfl, rfl, hb, lt60 ht, lt60 hb2, k⟩
))
end
end LW
end
section
namespace LW
open PySem PySem.Spec PyProof.Rows L2 Wo
local macro_rules | `(tactic| walk_at "lf") => `(tactic| first | assumption | (refine Up.up (by assumption) ?_; walk_at "lf") | (refine RAll.up (by assumption) ?_; walk_at "lf") | (refine Ob2.up (by assumption) ?_; walk_at "lf"))
local macro_rules | `(tactic| walk_at "side") => `(tactic| first | (unfold CMul; omega) | (unfold CDiv; omega) | (unfold CDivN; omega) | (unfold CPow; omega) | (show (0 : Int) < _; omega) | decide)
local macro_rules | `(tactic| walk_at "rd1") => `(tactic| first
  | ((with_reducible refine rd_var (v := ?v) ?h ?_); (case h => rfl))
  | with_reducible refine rd_c ?_
  | with_reducible refine rd_op ?_
  | with_reducible refine rd_I0 ?_
  | with_reducible refine rd_I ?_ ?_
  | with_reducible refine rd_U ?_
  | with_reducible refine rd_eqI ?_
  | with_reducible refine rd_neI ?_
  | with_reducible refine rd_eqS ?_
  | with_reducible refine rd_neS ?_
  | with_reducible refine rd_un ?_
  | with_reducible refine rd_test ?_
  | with_reducible refine rd_tB ?_
  | with_reducible refine rd_exB ?_
  | with_reducible refine rd_cons ?_
  | with_reducible refine rd_nil ?_
  | with_reducible refine rd_call ?_
  | with_reducible refine rd_cb ?_
  | with_reducible refine rd_seq ?_
  | with_reducible refine rd_asg ?_
  | with_reducible refine rd_gname ?_
  | with_reducible refine rd_ret ?_
  | with_reducible refine rd_ifS ?_
  | with_reducible refine rd_next ?_
  | with_reducible refine rd_drop ?_
  | with_reducible refine rd_if ?_
  | with_reducible refine rd_not ?_
  | with_reducible refine rd_and ?_
  | with_reducible refine rd_or ?_
  | with_reducible refine rd_andV ?_
  | with_reducible refine rd_orV ?_
  | with_reducible refine rd_notV ?_
  | with_reducible refine rd_chain ?_
  | with_reducible refine rd_slot ?_
  | with_reducible refine rd_sst ?_
  | with_reducible refine rd_par ?_
  | with_reducible refine rd_ex2 ?_
  | with_reducible refine rd_gcd ?_
  | with_reducible refine rd_prop ?_
  | with_reducible refine rd_sub ?_
  | with_reducible refine rd_lcm ?_ ?_
  | with_reducible refine rd_forL ?_
  | with_reducible refine rd_forT ?_
  | with_reducible refine rd_forR1 ?_
  | with_reducible refine rd_forZ ?_
  | with_reducible refine rd_lcL ?_
  | with_reducible refine rd_lcT ?_
  | with_reducible refine rd_lcR1 ?_
  | with_reducible refine rd_lcR2 ?_
  | with_reducible refine rd_lcZ ?_
  | with_reducible refine rd_lc2TT ?_
  | with_reducible refine rd_abs ?_
  | with_reducible refine rd_int ?_
  | with_reducible refine rd_intB ?_
  | with_reducible refine rd_max2 ?_
  | with_reducible refine rd_min2 ?_
  | with_reducible refine rd_tup ?_
  | with_reducible refine rd_lst ?_
  | with_reducible refine ite_T ?_
  | with_reducible refine ite_n ?_
  | with_reducible refine ite_y ?_
  | with_reducible refine ite_F ?_
  | with_reducible refine rd_retN ?_)
local macro_rules | `(tactic| walk_at "rd") => `(tactic| repeat walk_at "rd1")
local macro_rules | `(tactic| walk_at "sd") => `(tactic| first | exact Or.inl ⟨by decide, by decide⟩ | exact Or.inr ⟨by decide, by decide⟩ | (show (0 : Int) < _; decide +kernel) | exact ⟨by decide, by decide, by decide +kernel⟩ | exact ⟨by decide, by decide +kernel⟩)
section
variable {P : Program} {w : World} {K : PySem.W.Frag} {mg : Str → Option Value} {base : Heap}
def sp_Ratio___init__ (K : PySem.W.Frag) : Sp := sp3 fun s x z H Q _ => ∃ y dx q, s = .ref y ∧ dx ≠ y ∧ H y = some (.ins (gA "Ratio" K) dx []) ∧ H dx = some (.own y) ∧
  (RQ (gA "Lowest" K) H x q ∨ ∃ t b : Int, x = .int t ∧ z = .int b ∧ b ≠ 0 ∧ (-(10 ^ 60) < t ∧ t < 10 ^ 60) ∧ (-(10 ^ 60) < b ∧ b < 10 ^ 60) ∧ q = Rat.divInt t b) ∧
  ∀ H', RQ (gA "Ratio" K) H' (.ref y) q → (∀ c o, H c = some o → c ≠ y → c ≠ dx → H' c = some o) → Q .non H'
abbrev n_Ratio___init__ : List Str := ["self", "top", "bottom", "lowest"]
theorem sc_Ratio___init__ : FnScope n_Ratio___init__ ["self", "top", "bottom"] (defScope s_Ratio___init__) := ⟨rfl, rfl, rfl, by decide +kernel, rfl, by decide +kernel, by decide +kernel⟩
theorem cal_Ratio___init__ (T : Tx P K mg) : FnR P w K mg base (CXW P w) 5 (mA "Ratio" "__init__" K) (fun vs H Q E => sp_Ratio___init__ K vs H Q E ∨ sp_Ratio___init__ K (vs ++ [.int 1]) H Q E) := @NI.run _ (by exact NI.carry : NI.Carry (by
  refine fnR_ofD (k := 4) (sp := sp_Ratio___init__ K) T.D_Ratio___init__ sc_Ratio___init__ rfl 2 rfl (fun _ _ _ _ _ _ _ us its hl hl2 => match us, hl, its, hl2 with | [_, _], _, [_], _ => ⟨_, rfl, rfl⟩) (fun _ _ _ _ _ _ _ us its hl hl2 => match us, hl, its, hl2 with | [_, _, _], _, [_], _ => ⟨_, rfl, rfl⟩) (fun vs H Q E h => ?_) (fun cdv A outer s H vs Q E hr h => ?_)
  · obtain ⟨v0, v1, v2, rfl, _⟩ := h
    rfl
  obtain ⟨v0, v1, v2, rfl, h⟩ := h
  refine ⟨_, pss_cons (ps_set (i := 3) sc_Ratio___init__.nd rfl (by first | exact Or.inl rfl | exact Or.inr rfl) (pe_ifExp (pt_val (pe_callB (kIsi K) (by rfl) T.N_isinstance (by decide +kernel) (pa_cons (pv 1) (pa_cons (pe_gC T.G_Lowest) pa_nil)))) (pv 1) (pc (cal_told_lowest T) hr (pa_cons (pv 1) (pa_cons (pv 2) pa_nil)))))
      (pss_cons (SlX.ps_sl (pv 0) (kSl K (pv 3)))
      (pss_one (SlX.ps_sl (pv 0) (kSl K (pv 3))))), ?_⟩
  obtain ⟨y, dx, q, rfl, hne, hy, hdx, hx, k⟩ := h
  obtain ⟨p0, q0⟩ := T.C_Ratio.s0
  obtain ⟨p1, q1⟩ := T.C_Ratio.s1
  walk_at "rd"
  rcases hx with hx | ⟨t, b, rfl, rfl, hb, h1, h2, rfl⟩
  case' inl =>
    refine rd_isiY (HasTy.ob T.C_Lowest hx) ?_ (.own _) T.K_Lowest_Lowest
    walk_at "rd"
    have e := Same.refl H
    have hv := hx
  case' inr =>
    refine rd_isiN HasTy.int ?_ (.own _) T.K_int_Lowest
    walk_at "rd"
    refine ⟨_, _, rfl, t, b, rfl, rfl, hb, h1, h2, fun v H' e hv => ?_⟩
    walk_at "rd"
  all_goals
    refine rd_top T.C_Lowest hv ?_
    walk_at "rd"
    refine ⟨y, _, dx, _, [], _, rfl, .inl ⟨e _ _ hy, rfl⟩, T.C_Ratio.cl, q1, ?_⟩
    walk_at "rd"
    refine rd_bot T.C_Lowest (rq_slH hv (e _ _ hy) (e _ _ hdx)) ?_
    walk_at "rd"
    refine ⟨y, _, dx, _, _, _, rfl, SlX.slH_slt hne, T.C_Ratio.cl, q0, ?_⟩
    rw [SlX.slH_twice hne]
    exact k _ ⟨y, dx, rfl, SlX.slH_slt hne⟩ fun c o h e1 e2 => by rw [SlX.slH_ne e1 e2]; exact e _ _ h
))
def sp_Ratio (K : PySem.W.Frag) : Sp := fun vs H Q _ => ∃ x z q, (vs = [x, z] ∨ (vs = [x] ∧ z = .int 1)) ∧
  (RQ (gA "Lowest" K) H x q ∨ ∃ t b : Int, x = .int t ∧ z = .int b ∧ b ≠ 0 ∧ (-(10 ^ 60) < t ∧ t < 10 ^ 60) ∧ (-(10 ^ 60) < b ∧ b < 10 ^ 60) ∧ q = Rat.divInt t b) ∧
  ∀ v H', Same H H' → RQ (gA "Ratio" K) H' v q → Q v H'
theorem ctor_Ratio (T : Tx P K mg) : Ctor P w K mg base 5 "Ratio" (sp_Ratio K) := @NI.run _ (by exact NI.carry : NI.Carry (by
  refine ⟨_, _, _, T.G_Ratio, T.C_Ratio.make, cal_Ratio___init__ T, fun vs H Q E h y dx h1 h2 h3 => ?_⟩
  obtain ⟨x, z, q, hv, hx, k⟩ := h
  have st : Same H (upd (upd H dx (.own y)) y (.ins (gA "Ratio" K) dx [])) := fun c o e => by
    rw [upd_ne (ne_of_none e h1), upd_ne (ne_of_none e h2)]
    exact e
  have main : sp_Ratio___init__ K [.ref y, x, z] (upd (upd H dx (.own y)) y (.ins (gA "Ratio" K) dx [])) (fun v H2 => v = .non ∧ Q (.ref y) H2) E := by
    refine ⟨_, _, _, rfl, y, dx, q, rfl, h3, upd_same, by rw [upd_ne h3, upd_same], hx.imp (fun r => Up.up st r) id, fun H' r hk => ⟨rfl, k _ H' (fun c o e => ?_) r⟩⟩
    have n1 := ne_of_none e h1
    have n2 := ne_of_none e h2
    exact hk c o (by rw [upd_ne n1, upd_ne n2]; exact e) n1 n2
  rcases hv with rfl | ⟨rfl, rfl⟩
  · exact .inl main
  · exact .inr main
))
def sp_Ratio___eq__ (K : PySem.W.Frag) : Sp := sp_eqQ (gA "Ratio" K)
abbrev n_Ratio___eq__ : List Str := ["self", "other"]
theorem sc_Ratio___eq__ : FnScope n_Ratio___eq__ ["self", "other"] (defScope s_Ratio___eq__) := ⟨rfl, rfl, rfl, by decide +kernel, rfl, by decide +kernel, by decide +kernel⟩
theorem cal_Ratio___eq__ (T : Tx P K mg) : FnR P w K mg base (CXW P w) 1 (mA "Ratio" "__eq__" K) (sp_Ratio___eq__ K) := @NI.run _ (by exact NI.carry : NI.Carry (by
  refine fnR_of (k := 0) T.D_Ratio___eq__ sc_Ratio___eq__ (fun _ _ _ _ _ _ us hl => match us, hl with | [_, _], _ => rfl) (fun vs H Q E h => ?_) (fun cdv A outer s H vs Q E hr h => ?_)
  · obtain ⟨v0, v1, rfl, _⟩ := h
    rfl
  obtain ⟨v0, v1, rfl, h⟩ := h
  refine ⟨_, pss_one (ps_ret (pe_and (pe_callB (kIsi K) (by rfl) T.N_isinstance (by decide +kernel) (pa_cons (pv 1) (pa_cons (pe_gC T.G_Ratio) pa_nil))) (pe_and (pe_cmpR op_eq (kSl K (pv 0)) (kSl K (pv 1)) (nomark _)) (pe_one (pe_cmpR op_eq (kSl K (pv 0)) (kSl K (pv 1)) (nomark _)))))), ?_⟩
  obtain ⟨q, r, hq, hr', k⟩ := h
  walk_at "rd"
  refine rd_isiY (HasTy.rq T.C_Ratio hr') ?_ (.own _) T.K_Ratio_Ratio
  walk_at "rd"
  refine rd_top T.C_Ratio hq ?_
  walk_at "rd"
  refine rd_top T.C_Ratio hr' ?_
  walk_at "rd"
  refine ite_dec (fun hn => ?_) (fun hn => ?_)
  · walk_at "rd"
    refine rd_bot T.C_Ratio hq ?_
    walk_at "rd"
    refine rd_bot T.C_Ratio hr' ?_
    walk_at "rd"
    have e : decide ((q.den : Int) = (r.den : Int)) = decide (q = r) := decide_eq_decide.mpr ⟨fun h => Rat.ext hn (by omega), fun h => by rw [h]⟩
    rw [e]
    exact k
  · rw [decide_eq_false (fun h => hn (by rw [h]))] at k
    exact k
))
end
end LW
end
section
set_option exponentiation.threshold 5000
namespace LW
open PySem PySem.Spec PyProof.Rows L2 Wo
local macro_rules | `(tactic| walk_at "lf") => `(tactic| first | assumption | (refine Up.up (by assumption) ?_; walk_at "lf") | (refine RAll.up (by assumption) ?_; walk_at "lf") | (refine Ob2.up (by assumption) ?_; walk_at "lf"))
local macro_rules | `(tactic| walk_at "side") => `(tactic| first | (unfold CMul; omega) | (unfold CDiv; omega) | (unfold CDivN; omega) | (unfold CPow; omega) | (show (0 : Int) < _; omega) | decide)
local macro_rules | `(tactic| walk_at "rd1") => `(tactic| first
  | ((with_reducible refine rd_var (v := ?v) ?h ?_); (case h => rfl))
  | with_reducible refine rd_c ?_
  | with_reducible refine rd_op ?_
  | with_reducible refine rd_I0 ?_
  | with_reducible refine rd_I ?_ ?_
  | with_reducible refine rd_U ?_
  | with_reducible refine rd_eqI ?_
  | with_reducible refine rd_neI ?_
  | with_reducible refine rd_eqS ?_
  | with_reducible refine rd_neS ?_
  | with_reducible refine rd_un ?_
  | with_reducible refine rd_test ?_
  | with_reducible refine rd_tB ?_
  | with_reducible refine rd_exB ?_
  | with_reducible refine rd_cons ?_
  | with_reducible refine rd_nil ?_
  | with_reducible refine rd_call ?_
  | with_reducible refine rd_cb ?_
  | with_reducible refine rd_seq ?_
  | with_reducible refine rd_asg ?_
  | with_reducible refine rd_gname ?_
  | with_reducible refine rd_ret ?_
  | with_reducible refine rd_ifS ?_
  | with_reducible refine rd_next ?_
  | with_reducible refine rd_drop ?_
  | with_reducible refine rd_if ?_
  | with_reducible refine rd_not ?_
  | with_reducible refine rd_and ?_
  | with_reducible refine rd_or ?_
  | with_reducible refine rd_andV ?_
  | with_reducible refine rd_orV ?_
  | with_reducible refine rd_notV ?_
  | with_reducible refine rd_chain ?_
  | with_reducible refine rd_slot ?_
  | with_reducible refine rd_sst ?_
  | with_reducible refine rd_par ?_
  | with_reducible refine rd_ex2 ?_
  | with_reducible refine rd_gcd ?_
  | with_reducible refine rd_prop ?_
  | with_reducible refine rd_sub ?_
  | with_reducible refine rd_lcm ?_ ?_
  | with_reducible refine rd_forL ?_
  | with_reducible refine rd_forT ?_
  | with_reducible refine rd_forR1 ?_
  | with_reducible refine rd_forZ ?_
  | with_reducible refine rd_lcL ?_
  | with_reducible refine rd_lcT ?_
  | with_reducible refine rd_lcR1 ?_
  | with_reducible refine rd_lcR2 ?_
  | with_reducible refine rd_lcZ ?_
  | with_reducible refine rd_lc2TT ?_
  | with_reducible refine rd_abs ?_
  | with_reducible refine rd_int ?_
  | with_reducible refine rd_intB ?_
  | with_reducible refine rd_max2 ?_
  | with_reducible refine rd_min2 ?_
  | with_reducible refine rd_tup ?_
  | with_reducible refine rd_lst ?_
  | with_reducible refine ite_T ?_
  | with_reducible refine ite_n ?_
  | with_reducible refine ite_y ?_
  | with_reducible refine ite_F ?_
  | with_reducible refine rd_retN ?_)
local macro_rules | `(tactic| walk_at "rd") => `(tactic| repeat walk_at "rd1")
local macro_rules | `(tactic| walk_at "sd") => `(tactic| first | exact Or.inl ⟨by decide, by decide⟩ | exact Or.inr ⟨by decide, by decide⟩ | (show (0 : Int) < _; decide +kernel) | exact ⟨by decide, by decide, by decide +kernel⟩ | exact ⟨by decide, by decide +kernel⟩)
section
variable {P : Program} {w : World} {K : PySem.W.Frag} {mg : Str → Option Value} {base : Heap}
set_option hygiene false in
local macro_rules | `(tactic| walk_at "rt") => `(tactic| first
  | walk_at "rd1"
  | with_reducible refine rd_exI ?_
  | with_reducible refine rd_tNotIn ?_
  | with_reducible refine rd_forR2 ?_
  | with_reducible refine rd_gSub ?_
  | with_reducible refine rd_lcR2f ?_
  | with_reducible refine rd_bm ?_
  | with_reducible refine rd_callW ?_
  | with_reducible refine rd_lcR1f ?_)
local macro_rules | `(tactic| walk_at "ru") => `(tactic| first
  | walk_at "rt"
  | with_reducible refine rd_sl ?_
  | with_reducible refine rd_noPart ?_
  | with_reducible refine rd_part ?_
  | with_reducible refine rd_revL ?_
  | with_reducible refine rd_par3 ?_
  | with_reducible refine rd_lcLf ?_
  | with_reducible refine rd_lcTf ?_
  | with_reducible refine rd_lcETf ?_
  | with_reducible refine rd_lcEf ?_
  | with_reducible refine rd_forE ?_
  | with_reducible refine rd_forET ?_
  | with_reducible refine rd_dcT ?_
  | with_reducible refine rd_dcL ?_
  | with_reducible refine rd_lcS ?_
  | with_reducible refine rd_fmtL ?_
  | with_reducible refine rd_forZM ?_
  | with_reducible refine rd_revT ?_
  | with_reducible refine rd_methN0 ?_
  | with_reducible refine rd_dget2 ?_
  | with_reducible refine rd_lcVals ?_
  | with_reducible refine rd_star ?_
  | with_reducible refine rd_lcZA ?_
  | with_reducible refine rd_lenSetA ?_
  | with_reducible refine rd_listVals ?_
  | with_reducible refine rd_methN ?_
  | with_reducible refine rd_ixO ?_
  | with_reducible refine rd_lenSetS ?_
  | with_reducible refine rd_makeKW ?_)
abbrev LET : List Nat := ("abcdefghijklmnopqrstuvwxyz" : Str).cps.toList
abbrev DIG : List Nat := ("0123456789" : Str).cps.toList
abbrev RES : List Str := ["else", "fun", "if", "in", "stop", "text", "try", "with"]
def signB (c : Nat) : Bool := decide (c ∈ LET) || decide (c ∈ DIG)
def runB (z : Str) : Bool := decide (1 ≤ z.length ∧ z.length ≤ 8) && z.cps.toList.all signB
def headB (z : Str) : Bool := match z.cps.toList with
  | c :: _ => decide (c ∈ LET)
  | [] => false
def nameB (z : Str) : Bool := runB z && (headB z && !decide (z ∈ RES))
def RN (K : PySem.W.Frag) (H : Hp) (v : V) (o : Option Str) : Prop := match o with
  | some z => v = .str z ∧ z.length ≤ 1000
  | none => ∃ t, HasTy K H v t ∧ PySem.W.kitOne K t (.type "str") = some false
def oR (f : Str → Bool) : Option Str → Bool
  | some z => f z
  | none => false
def sp_is_run (K : PySem.W.Frag) : Sp := sp1 fun x H Q _ => ∃ o, RN K H x o ∧ ∀ H', Same H H' → Q (.bl (oR runB o)) H'
abbrev n_is_run : List Str := ["value", "sign"]
theorem sc_is_run : FnScope n_is_run ["value"] (defScope s_is_run) := ⟨rfl, rfl, rfl, by decide +kernel, rfl, by decide +kernel, by decide +kernel⟩
theorem cal_is_run (T : Tx P K mg) : Cal P w K mg base 1 "is_run" (sp_is_run K) := @NI.run _ (by exact NI.carry : NI.Carry (by
  refine cal_of (k := 0) T.G_is_run T.D_is_run sc_is_run (fun _ _ _ _ _ _ us hl => match us, hl with | [_], _ => rfl) (fun vs H Q E h => ?_) (fun cdv A outer s H vs Q E hr h => ?_)
  · obtain ⟨v0, rfl, _⟩ := h
    rfl
  obtain ⟨v0, rfl, h⟩ := h
  refine ⟨_, pss_cons (ps_if (PW.pt (pw_or (pt_not (pt_val (pe_callB (kIsi K) (by rfl) T.N_isinstance (by decide +kernel) (pa_cons (pv 0) (pa_cons (pe_bltn (v := .ty "str") (by rfl) T.N_str (by decide +kernel) rfl) pa_nil))))) (pw_or1 (pt_not (pt_chain op_le op_le pe_int (pe_callB call_len_str (by rfl) T.N_len (by decide +kernel) (pa_cons (pv 0) pa_nil)) (pe_gI T.I_MOST_NAME))))))
        (pss_one (ps_ret pe_bl))
        (pss_nil))
      (pss_one (ps_ret (pe_callB (kAll K) (by rfl) T.N_all (by decide +kernel) (pa_cons (pe_lc (own := [("sign", 1)]) (g := gName 1) (tt := tYes) (by rfl) sc_is_run.nd (pi_str (pv 0)) (blkOk_by (own := [("sign", 1)]) (N := n_is_run) (by rfl)) (fun _ _ _ _ _ => pg_name (i := 1) sc_is_run.nd rfl (by first | exact Or.inl rfl | exact Or.inr rfl)) (fun _ _ _ _ _ => pts_nil) (fun _ _ _ _ _ => pe_hid (pe_or (pe_cmpR op_in_sign (pv 1) (pe_gS T.S_LETTERS) rfl) (pe_one (pe_cmpR op_in_sign (pv 1) (pe_gS T.S_DIGITS) rfl))))) pa_nil)))), ?_⟩
  obtain ⟨o, ho, k⟩ := h
  repeat walk_at "ru"
  cases o with
  | none =>
    obtain ⟨t, ht, hk⟩ := ho
    refine rd_isiN ht ?_ (.ty "str") hk
    repeat walk_at "ru"
    exact k _ (Same.refl _)
  | some z =>
    obtain ⟨rfl, hz⟩ := ho
    refine rd_isiY HasTy.str ?_ (.ty "str")
    repeat walk_at "ru"
    refine ⟨z, rfl, Nat.le_trans hz (by decide), ?_⟩
    repeat walk_at "ru"
    have hk : ∀ b, runB z = b → ∀ H', Same H H' → Q (.bl b) H' := fun b hb H' e => hb ▸ k H' e
    by_cases h1 : 1 ≤ (z.length : Int)
    · rw [decide_eq_true h1]
      repeat walk_at "ru"
      by_cases h8 : (z.length : Int) ≤ 8
      · rw [decide_eq_true h8]
        repeat walk_at "ru"
        refine ⟨z, rfl, lcK_name (S := RB) (K := K) wk_str (by
          rw [Array.length_toList]
          exact Nat.le_trans (show z.cps.size ≤ 1000 from hz) (by decide)) signB (fun v H4 e4 hv => ?_) (fun c G x hc e4 hx Kt hk2 => ?_)⟩
        · repeat walk_at "ru"
          refine rd_all hv ?_
          repeat walk_at "ru"
          refine hk _ ?_ _ e4
          unfold runB
          rw [decide_eq_true ⟨by omega, by omega⟩, Bool.true_and, List.all_map]
          rfl
        · obtain rfl := hx
          repeat walk_at "ru"
          refine ⟨c, _, rfl, rfl, ?_⟩
          cases h : decide (c ∈ LET) with
          | true =>
            repeat walk_at "ru"
            exact hk2 _ _ (Same.refl _) (by show V.bl true = V.bl (signB c); unfold signB; rw [h]; rfl)
          | false =>
            repeat walk_at "ru"
            refine ⟨c, _, rfl, rfl, ?_⟩
            refine hk2 _ _ (Same.refl _) ?_
            show V.bl _ = V.bl (signB c)
            unfold signB
            rw [h]
            rfl
      · rw [decide_eq_false h8]
        repeat walk_at "ru"
        exact hk _ (by unfold runB; rw [decide_eq_false (by omega)]; rfl) _ (Same.refl _)
    · rw [decide_eq_false h1]
      repeat walk_at "ru"
      exact hk _ (by unfold runB; rw [decide_eq_false (by omega)]; rfl) _ (Same.refl _)
))
def sp_is_name (K : PySem.W.Frag) : Sp := sp1 fun x H Q _ => ∃ o, RN K H x o ∧ ∀ H', Same H H' → Q (.bl (oR nameB o)) H'
abbrev n_is_name : List Str := ["value"]
theorem sc_is_name : FnScope n_is_name ["value"] (defScope s_is_name) := ⟨rfl, rfl, rfl, by decide +kernel, rfl, by decide +kernel, by decide +kernel⟩
theorem cal_is_name (T : Tx P K mg) : Cal P w K mg base 2 "is_name" (sp_is_name K) := @NI.run _ (by exact NI.carry : NI.Carry (by
  refine cal_of (k := 1) T.G_is_name T.D_is_name sc_is_name (fun _ _ _ _ _ _ us hl => match us, hl with | [_], _ => rfl) (fun vs H Q E h => ?_) (fun cdv A outer s H vs Q E hr h => ?_)
  · obtain ⟨v0, rfl, _⟩ := h
    rfl
  obtain ⟨v0, rfl, h⟩ := h
  refine ⟨_, pss_one (ps_ret (pe_and (pc (cal_is_run T) hr (pa_cons (pv 0) pa_nil)) (pe_and (pe_cmpR op_in_sign (pe_ix ix_str (pv 0) pe_int (fun _ _ => rfl)) (pe_gS T.S_LETTERS) rfl) (pe_one (pe_cmpR op_notIn_seq (pv 0) (pe_gC T.G_RESERVED) (by with_unfolding_all rfl)))))), ?_⟩
  obtain ⟨o, ho, k⟩ := h
  repeat walk_at "ru"
  refine ⟨_, rfl, _, ho, fun H1 e1 => ?_⟩
  repeat walk_at "ru"
  cases o with
  | none =>
    show if false = true then _ else _
    repeat walk_at "ru"
    exact k _ e1
  | some z =>
    obtain ⟨rfl, hz⟩ := ho
    have hk : ∀ b, nameB z = b → ∀ H', Same H H' → Q (.bl b) H' := fun b hb H' e => hb ▸ k H' e
    show if runB z = true then _ else _
    cases hr : runB z with
    | false =>
      repeat walk_at "ru"
      exact hk _ (by unfold nameB; rw [hr]; rfl) _ e1
    | true =>
      have hl : 1 ≤ z.length ∧ z.length ≤ 8 := by
        unfold runB at hr
        obtain ⟨a, _⟩ := Bool.and_eq_true_iff.mp hr
        exact of_decide_eq_true a
      obtain ⟨c, t, hc⟩ : ∃ c t, z.cps.toList = c :: t := by
        cases h : z.cps.toList with
        | nil =>
          have : z.cps.toList.length = z.length := by rw [Array.length_toList]; rfl
          rw [h] at this
          have := this.symm
          simp only [List.length_nil] at this
          omega
        | cons c t => exact ⟨c, t, rfl⟩
      have hh : headB z = decide (c ∈ LET) := by unfold headB; rw [hc]
      repeat walk_at "ru"
      refine ⟨z, 0, c, rfl, rfl, Nat.le_trans hz (by decide), by rw [hc]; show atI _ ((0 : Nat) : Int) = _; exact atI_nat rfl, ?_⟩
      repeat walk_at "ru"
      refine ⟨c, _, rfl, rfl, ?_⟩
      repeat walk_at "ru"
      cases h : decide (c ∈ LET) with
      | false =>
        repeat walk_at "ru"
        exact hk _ (by unfold nameB; rw [hr, hh, h]; rfl) _ e1
      | true =>
        repeat walk_at "ru"
        refine rd_ninTS (T.T_RESERVED _) ?_
        repeat walk_at "ru"
        exact hk _ (by unfold nameB; rw [hr, hh, h]; rfl) _ e1
))
def shown (i : Int) : List Nat := (Str.ofString (toString i)).cps.toList
def line (t : Int) (b : Nat) : List Nat := shown t ++ if b = 1 then [] else 47 :: shown b
theorem rd_js {t : TE} {ts : List TE} {acc : Str} {σ : L2.St} {H : Hp} {Q : Str → Hp → Prop} (q : t σ H fun x H1 => ∃ y : Str, x = .str y ∧ (acc ++ y).length ≤ sizeLine ∧ tJs ts (acc ++ y) σ H1 Q) : tJs (t :: ts) acc σ H Q := q
theorem rd_js0 {acc : Str} {σ : L2.St} {H : Hp} {Q : Str → Hp → Prop} (q : Q acc H) : tJs [] acc σ H Q := q
def sp_Ratio___str__ (K : PySem.W.Frag) : Sp := sp1 fun x H Q E => ∃ (t : Int) (b : Nat), Ob2 (gA "Ratio" K) H x (.int (b : Nat)) (.int t) ∧ t.natAbs < 10 ^ 4300 ∧ b < 10 ^ 4300 ∧ (line t b).length ≤ 10 ^ 5 ∧ Q (.str (tx (line t b))) H
abbrev n_Ratio___str__ : List Str := ["self"]
theorem sc_Ratio___str__ : FnScope n_Ratio___str__ ["self"] (defScope s_Ratio___str__) := ⟨rfl, rfl, rfl, by decide +kernel, rfl, by decide +kernel, by decide +kernel⟩
theorem cal_Ratio___str__ (T : Tx P K mg) : FnR P w K mg base (CXW P w) 1 (mA "Ratio" "__str__" K) (sp_Ratio___str__ K) := @NI.run _ (by exact NI.carry : NI.Carry (by
  refine fnR_of (k := 0) T.D_Ratio___str__ sc_Ratio___str__ (fun _ _ _ _ _ _ us hl => match us, hl with | [_], _ => rfl) (fun vs H Q E h => ?_) (fun cdv A outer s H vs Q E hr h => ?_)
  · obtain ⟨v0, rfl, _⟩ := h
    rfl
  obtain ⟨v0, rfl, h⟩ := h
  refine ⟨_, pss_cons (ps_if (pt_cmpR op_eq (kSl K (pv 0)) pe_int (nomark _))
        (pss_one (ps_ret (pe_joined1 (pe_fmtL T.Z_digits hr (kSl K (pv 0))))))
        (pss_nil))
      (pss_one (ps_ret (pe_joined (PJ.cons (pe_fmtL T.Z_digits hr (kSl K (pv 0))) (PJ.cons pe_str (PJ.cons (pe_fmtL T.Z_digits hr (kSl K (pv 0))) PJ.nil)))))), ?_⟩
  obtain ⟨t, b, hx, ht, hb, hz, k⟩ := h
  repeat walk_at "ru"
  refine rd_slot0 T.C_Ratio hx ?_
  repeat walk_at "ru"
  refine ite_dec (fun h1 => ?_) (fun h1 => ?_)
  · have h1 : b = 1 := by omega
    repeat walk_at "ru"
    refine rd_slot1 T.C_Ratio hx ⟨t, rfl, ht, ?_⟩
    unfold line at k
    rw [if_pos h1, List.append_nil] at k
    exact k
  · have h1 : b ≠ 1 := by omega
    unfold line at k hz
    rw [if_neg h1] at k hz
    rw [List.length_append, List.length_cons] at hz
    repeat walk_at "ru"
    have z1 : (tx ([] : List Nat) ++ tx (shown t)).length ≤ sizeLine := by rw [tx_app, tx_len]; exact line5 (by simp; omega)
    have z2 : (tx ([] : List Nat) ++ tx (shown t) ++ tx [47]).length ≤ sizeLine := by rw [tx_app, tx_app, tx_len]; exact line5 (by simp; omega)
    have z3 : (tx ([] : List Nat) ++ tx (shown t) ++ tx [47] ++ tx (shown (b : Int))).length ≤ sizeLine := by rw [tx_app, tx_app, tx_app, tx_len]; exact line5 (by simp; omega)
    refine rd_js ?_
    repeat walk_at "ru"
    refine rd_slot1 T.C_Ratio hx ⟨t, rfl, ht, tx (shown t), rfl, z1, rd_js ?_⟩
    repeat walk_at "ru"
    refine ⟨tx [47], rfl, z2, rd_js ?_⟩
    repeat walk_at "ru"
    refine rd_slot0 T.C_Ratio hx ⟨(b : Int), rfl, hb, tx (shown (b : Int)), rfl, z3, rd_js0 ?_⟩
    have e : tx ([] : List Nat) ++ tx (shown t) ++ tx [47] ++ tx (shown (b : Int)) = tx (shown t ++ 47 :: shown (b : Int)) := by
      rw [tx_app, tx_app, tx_app]
      simp
    exact e ▸ k
))
def NoC (K : PySem.W.Frag) (c : Str) (H : Hp) (x : V) : Prop := ∃ t, HasTy K H x t ∧ PySem.W.kitOne K t (.ref (gA c K)) = some false
theorem NoC.up {c : Str} {H H' : Hp} {x : V} (e : Same H H') (h : NoC K c H x) : NoC K c H' x := h.imp fun t ⟨h1, h2⟩ => ⟨Up.up (R := RTy K) e h1, h2⟩
def sp_is_ratio (K : PySem.W.Frag) : Sp := sp1 fun x H Q _ => ((∃ q, RQ (gA "Ratio" K) H x q) ∧ Q (.bl true) H) ∨ (NoC K "Ratio" H x ∧ Q (.bl false) H)
abbrev n_is_ratio : List Str := ["value"]
theorem sc_is_ratio : FnScope n_is_ratio ["value"] (defScope s_is_ratio) := ⟨rfl, rfl, rfl, by decide +kernel, rfl, by decide +kernel, by decide +kernel⟩
theorem cal_is_ratio (T : Tx P K mg) : Cal P w K mg base 1 "is_ratio" (sp_is_ratio K) := @NI.run _ (by exact NI.carry : NI.Carry (by
  refine cal_of (k := 0) T.G_is_ratio T.D_is_ratio sc_is_ratio (fun _ _ _ _ _ _ us hl => match us, hl with | [_], _ => rfl) (fun vs H Q E h => ?_) (fun cdv A outer s H vs Q E hr h => ?_)
  · obtain ⟨v0, rfl, _⟩ := h
    rfl
  obtain ⟨v0, rfl, h⟩ := h
  refine ⟨_, pss_one (ps_ret (pe_callB (kIsi K) (by rfl) T.N_isinstance (by decide +kernel) (pa_cons (pv 0) (pa_cons (pe_gC T.G_Ratio) pa_nil)))), ?_⟩
  rcases h with ⟨⟨q, hq⟩, k⟩ | ⟨⟨t, ht, hk⟩, k⟩
  · walk_at "rd"
    refine rd_isiY (HasTy.rq T.C_Ratio hq) ?_ (.own _) T.K_Ratio_Ratio
    exact k
  · walk_at "rd"
    refine rd_isiN ht ?_ (.own _) hk
    exact k
))
def ROp {α : Type} (R : Rl α) : Rl (Option α) := fun H v o => match o with
  | none => v = .non
  | some a => R H v a ∧ v ≠ .non
instance {α : Type} {R : Rl α} [Up R] : Up (ROp R) := ⟨fun {H H' v o} e h => by
  cases o with
  | none => exact h
  | some a => exact ⟨Up.up e h.1, h.2⟩⟩
instance {α : Type} {R : Rl α} [Ud R] : Ud (ROp R) := ⟨fun {H d kvs v o} e h => by
  cases o with
  | none => exact h
  | some a => exact ⟨Ud.ud e h.1, h.2⟩⟩
abbrev RIo : Rl (Option Int) := ROp RI
abbrev RQo (K : PySem.W.Frag) : Rl (Option Rat) := ROp (RQ (gA "Ratio" K))
structure LvOk (ls : List Str) : Prop where
  two : 2 ≤ ls.length
  few : ls.length ≤ 12
  run : ∀ z ∈ ls, runB z = true
  nd : ls.Nodup
theorem runB_len {z : Str} (h : runB z = true) : z.length ≤ 1000 := @NI.run _ (by exact NI.carry : NI.Carry (by
  unfold runB at h
  have := of_decide_eq_true (Bool.and_eq_true_iff.mp h).1
  omega
))
def sp_are_levels (K : PySem.W.Frag) : Sp := sp1 fun x H Q _ => ∃ ls, RT K RS H x ls ∧ LvOk ls ∧ ∀ H', Same H H' → Q (.bl true) H'
abbrev n_are_levels : List Str := ["value", "one"]
theorem sc_are_levels : FnScope n_are_levels ["value"] (defScope s_are_levels) := ⟨rfl, rfl, rfl, by decide +kernel, rfl, by decide +kernel, by decide +kernel⟩
theorem cal_are_levels (T : Tx P K mg) : Cal P w K mg base 2 "are_levels" (sp_are_levels K) := @NI.run _ (by exact NI.carry : NI.Carry (by
  refine cal_of (k := 1) T.G_are_levels T.D_are_levels sc_are_levels (fun _ _ _ _ _ _ us hl => match us, hl with | [_], _ => rfl) (fun vs H Q E h => ?_) (fun cdv A outer s H vs Q E hr h => ?_)
  · obtain ⟨v0, rfl, _⟩ := h
    rfl
  obtain ⟨v0, rfl, h⟩ := h
  refine ⟨_, pss_cons (ps_if (PW.pt (pw_or (pt_not (pt_val (pe_callB (kIsi K) (by rfl) T.N_isinstance (by decide +kernel) (pa_cons (pv 0) (pa_cons (pe_bltn (v := .ty "tuple") (by rfl) T.N_tuple (by decide +kernel) rfl) pa_nil))))) (pw_or (pt_not (pt_chain op_le op_le pe_int (pe_callB (kLen K) (by rfl) T.N_len (by decide +kernel) (pa_cons (pv 0) pa_nil)) (pe_gI T.I_MAX_LEVELS))) (pw_or1 (pt_not (pt_val (pe_callB (kAll K) (by rfl) T.N_all (by decide +kernel) (pa_cons (pe_lc (own := [("one", 1)]) (g := gName 1) (tt := tYes) (by rfl) sc_are_levels.nd (kPiT K (pv 0)) (blkOk_by (own := [("one", 1)]) (N := n_are_levels) (by rfl)) (fun _ _ _ _ _ => pg_name (i := 1) sc_are_levels.nd rfl (by first | exact Or.inl rfl | exact Or.inr rfl)) (fun _ _ _ _ _ => pts_nil) (fun _ _ _ _ _ => pe_hid (pc (cal_is_run T) hr (pa_cons (pv 1) pa_nil)))) pa_nil))))))))
        (pss_one (ps_ret pe_bl))
        (pss_nil))
      (pss_one (ps_ret (pe_cmpR op_eq (pe_lenSetS (by rfl) T.N_len (by rfl) T.N_set (pv 0)) (pe_callB (kLen K) (by rfl) T.N_len (by decide +kernel) (pa_cons (pv 0) pa_nil)) (nomark _)))), ?_⟩
  obtain ⟨ls, hx, hl, k⟩ := h
  have h2 := hl.two
  have h12 := hl.few
  repeat walk_at "ru"
  refine rd_isiY (HasTy.rt hx) ?_ (.ty "tuple")
  repeat walk_at "ru"
  refine rd_lenT hx ?_
  repeat walk_at "ru"
  rw [decide_eq_true (show (2 : Int) ≤ (ls.length : Int) by omega)]
  repeat walk_at "ru"
  rw [decide_eq_true (show (ls.length : Int) ≤ 12 by omega)]
  repeat walk_at "ru"
  refine lcT hx fun J W hz => lcK_name (S := RB) (K := K) W hz (fun z => runB z) (fun v H4 e4 hv => ?_) (fun z G x hz2 e4 hx2 Kt hk2 => ?_)
  · repeat walk_at "ru"
    refine rd_all hv ?_
    rw [show (ls.map fun z => runB z).all id = true by rw [List.all_map]; exact List.all_eq_true.mpr fun z hz => hl.run z hz]
    repeat walk_at "ru"
    refine ⟨ls, Up.up e4 hx, hl.nd, by omega, ?_⟩
    repeat walk_at "ru"
    refine rd_lenT (Up.up e4 hx) ?_
    repeat walk_at "ru"
    rw [decide_eq_true rfl]
    exact k _ e4
  · repeat walk_at "ru"
    exact ⟨_, rfl, some z, ⟨hx2, runB_len (hl.run z hz2)⟩, fun H' e => hk2 _ _ e rfl⟩
))
def CdOk (m : Nat) (ns : List (Option Int)) : Prop := ns.length ≤ 200 ∧ ∀ n, some n ∈ ns → 0 ≤ n ∧ n < (m : Int)
def sp_are_codes (K : PySem.W.Frag) : Sp := sp2 fun x y H Q _ => ∃ ns m, RT K RIo H x ns ∧ y = .int (m : Nat) ∧ m ≤ 1000 ∧ CdOk m ns ∧ ∀ H', Same H H' → Q (.bl true) H'
abbrev n_are_codes : List Str := ["value", "many", "one"]
theorem sc_are_codes : FnScope n_are_codes ["value", "many"] (defScope s_are_codes) := ⟨rfl, rfl, rfl, by decide +kernel, rfl, by decide +kernel, by decide +kernel⟩
theorem cal_are_codes (T : Tx P K mg) : Cal P w K mg base 3 "are_codes" (sp_are_codes K) := @NI.run _ (by exact NI.carry : NI.Carry (by
  refine cal_of (k := 2) T.G_are_codes T.D_are_codes sc_are_codes (fun _ _ _ _ _ _ us hl => match us, hl with | [_, _], _ => rfl) (fun vs H Q E h => ?_) (fun cdv A outer s H vs Q E hr h => ?_)
  · obtain ⟨v0, v1, rfl, _⟩ := h
    rfl
  obtain ⟨v0, v1, rfl, h⟩ := h
  refine ⟨_, pss_cons (ps_if (PW.pt (pw_or (pt_not (pt_val (pe_callB (kIsi K) (by rfl) T.N_isinstance (by decide +kernel) (pa_cons (pv 0) (pa_cons (pe_bltn (v := .ty "tuple") (by rfl) T.N_tuple (by decide +kernel) rfl) pa_nil))))) (pw_or1 (pt_cmpR op_gt (pe_callB (kLen K) (by rfl) T.N_len (by decide +kernel) (pa_cons (pv 0) pa_nil)) (pe_gI T.I_MAX_ROWS) (nomark _)))))
        (pss_one (ps_ret pe_bl))
        (pss_nil))
      (pss_one (ps_ret (pe_callB (kAll K) (by rfl) T.N_all (by decide +kernel) (pa_cons (pe_lc (own := [("one", 2)]) (g := gName 2) (tt := tYes) (by rfl) sc_are_codes.nd (kPiT K (pv 0)) (blkOk_by (own := [("one", 2)]) (N := n_are_codes) (by rfl)) (fun _ _ _ _ _ => pg_name (i := 2) sc_are_codes.nd rfl (by first | exact Or.inl rfl | exact Or.inr rfl)) (fun _ _ _ _ _ => pts_nil) (fun _ _ _ _ _ => pe_hid (pe_or (pe_cmpR op_isN (pv 2) pe_non (nomark _)) (pe_one (pc (cal_is_within T) hr (pa_cons (pv 2) (pa_cons pe_int (pa_cons (pe_op op_sub (pv 1) pe_int) pa_nil)))))))) pa_nil)))), ?_⟩
  obtain ⟨ns, m, hx, rfl, hm, ⟨hn, hb⟩, k⟩ := h
  repeat walk_at "ru"
  refine rd_isiY (HasTy.rt hx) ?_ (.ty "tuple")
  repeat walk_at "ru"
  refine rd_lenT hx ?_
  repeat walk_at "ru"
  rw [decide_eq_false (show ¬ ((ns.length : Int) > 200) by omega)]
  repeat walk_at "ru"
  refine lcT hx fun J W hz => lcK_name (S := RB) (K := K) W hz (fun _ => true) (fun v H4 e4 hv => ?_) (fun z G x hz2 e4 hx2 Kt hk2 => ?_)
  · repeat walk_at "ru"
    refine rd_all hv ?_
    rw [show (ns.map fun _ => true).all id = true by rw [List.all_map]; exact List.all_eq_true.mpr fun z hz => rfl]
    exact k _ e4
  · cases z with
    | none =>
      obtain rfl : x = V.non := hx2
      repeat walk_at "ru"
      refine ⟨rfl, ?_⟩
      rw [decide_eq_true rfl]
      repeat walk_at "ru"
      exact hk2 _ _ (Same.refl _) rfl
    | some z =>
      obtain rfl : x = V.int z := hx2.1
      repeat walk_at "ru"
      refine ⟨rfl, ?_⟩
      rw [decide_eq_false (show ¬ (V.int z = V.non) from fun h => by cases h)]
      repeat walk_at "ru"
      obtain ⟨h0, h1⟩ := hb z hz2
      refine ⟨_, _, _, rfl, z, 0, _, rfl, rfl, rfl, by omega, ?_⟩
      rw [decide_eq_true ⟨h0, by omega⟩]
      exact hk2 _ _ (Same.refl _) rfl
))
theorem rq_ref {C : Addr} {H : Hp} {v : V} {q : Rat} (h : RQ C H v q) : v ≠ .non := @NI.run _ (by exact NI.carry : NI.Carry (by
  obtain ⟨a, dx, rfl, _⟩ := h
  exact fun h => nomatch h
))
def sp_are_amounts (K : PySem.W.Frag) : Sp := sp1 fun x H Q _ => ∃ qs, RT K (RQo K) H x qs ∧ qs.length ≤ 200 ∧ ∀ H', Same H H' → Q (.bl true) H'
abbrev n_are_amounts : List Str := ["value", "one"]
theorem sc_are_amounts : FnScope n_are_amounts ["value"] (defScope s_are_amounts) := ⟨rfl, rfl, rfl, by decide +kernel, rfl, by decide +kernel, by decide +kernel⟩
theorem cal_are_amounts (T : Tx P K mg) : Cal P w K mg base 2 "are_amounts" (sp_are_amounts K) := @NI.run _ (by exact NI.carry : NI.Carry (by
  refine cal_of (k := 1) T.G_are_amounts T.D_are_amounts sc_are_amounts (fun _ _ _ _ _ _ us hl => match us, hl with | [_], _ => rfl) (fun vs H Q E h => ?_) (fun cdv A outer s H vs Q E hr h => ?_)
  · obtain ⟨v0, rfl, _⟩ := h
    rfl
  obtain ⟨v0, rfl, h⟩ := h
  refine ⟨_, pss_cons (ps_if (PW.pt (pw_or (pt_not (pt_val (pe_callB (kIsi K) (by rfl) T.N_isinstance (by decide +kernel) (pa_cons (pv 0) (pa_cons (pe_bltn (v := .ty "tuple") (by rfl) T.N_tuple (by decide +kernel) rfl) pa_nil))))) (pw_or1 (pt_cmpR op_gt (pe_callB (kLen K) (by rfl) T.N_len (by decide +kernel) (pa_cons (pv 0) pa_nil)) (pe_gI T.I_MAX_ROWS) (nomark _)))))
        (pss_one (ps_ret pe_bl))
        (pss_nil))
      (pss_one (ps_ret (pe_callB (kAll K) (by rfl) T.N_all (by decide +kernel) (pa_cons (pe_lc (own := [("one", 1)]) (g := gName 1) (tt := tYes) (by rfl) sc_are_amounts.nd (kPiT K (pv 0)) (blkOk_by (own := [("one", 1)]) (N := n_are_amounts) (by rfl)) (fun _ _ _ _ _ => pg_name (i := 1) sc_are_amounts.nd rfl (by first | exact Or.inl rfl | exact Or.inr rfl)) (fun _ _ _ _ _ => pts_nil) (fun _ _ _ _ _ => pe_hid (pe_or (pe_cmpR op_isN (pv 1) pe_non (nomark _)) (pe_one (pc (cal_is_ratio T) hr (pa_cons (pv 1) pa_nil)))))) pa_nil)))), ?_⟩
  obtain ⟨qs, hx, hn, k⟩ := h
  repeat walk_at "ru"
  refine rd_isiY (HasTy.rt hx) ?_ (.ty "tuple")
  repeat walk_at "ru"
  refine rd_lenT hx ?_
  repeat walk_at "ru"
  rw [decide_eq_false (show ¬ ((qs.length : Int) > 200) by omega)]
  repeat walk_at "ru"
  refine lcT hx fun J W hz => lcK_name (S := RB) (K := K) W hz (fun _ => true) (fun v H4 e4 hv => ?_) (fun z G x hz2 e4 hx2 Kt hk2 => ?_)
  · repeat walk_at "ru"
    refine rd_all hv ?_
    rw [show (qs.map fun _ => true).all id = true by rw [List.all_map]; exact List.all_eq_true.mpr fun z hz => rfl]
    exact k _ e4
  · cases z with
    | none =>
      obtain rfl : x = V.non := hx2
      repeat walk_at "ru"
      refine ⟨rfl, ?_⟩
      rw [decide_eq_true rfl]
      repeat walk_at "ru"
      exact hk2 _ _ (Same.refl _) rfl
    | some z =>
      obtain ⟨hq, hne⟩ := hx2
      repeat walk_at "ru"
      refine ⟨rfl, ?_⟩
      rw [decide_eq_false hne]
      repeat walk_at "ru"
      exact ⟨_, rfl, .inl ⟨⟨_, hq⟩, hk2 _ _ (Same.refl _) rfl⟩⟩
))
theorem slN2 {K : PySem.W.Frag} {C fi : Addr} {f0 f1 : Str} (h : Sl2 K C f0 f1 fi) : SlN K C [f0, f1] fi := ⟨h.cl, fun i f e => by
  match i, e with
  | 0, e => cases e; exact h.s0
  | 1, e => cases e; exact h.s1, h.si, h.make, h.cs, h.ty⟩
theorem same_slot {B H : Hp} {y C dx : Addr} {vs : List (Option V)} (e : Same B H) (hy : B y = none) (hdx : B dx = none) : Same B (SlX.slH H y C dx vs) := fun b u q => by
  rw [SlX.slH_ne (ne_of_none q hy) (ne_of_none q hdx)]
  exact e b u q
def FacR (K : PySem.W.Frag) : Rl (List Str × List (Option Int)) := fun H v D => ∃ vc vl, ObN (gA "Factor" K) H v [vc, vl] ∧ RT K RS H vl D.1 ∧ RT K RIo H vc D.2
instance : Up (FacR K) := ⟨fun e ⟨vc, vl, a, b, c⟩ => ⟨vc, vl, ObN.up e a, Up.up e b, Up.up e c⟩⟩
theorem FacR.own {K : PySem.W.Frag} {H : Hp} {v : V} {D : List Str × List (Option Int)} (h : FacR K H v D) : Own (gA "Factor" K) H v := @NI.run _ (by exact NI.carry : NI.Carry (by
  obtain ⟨_, _, a, _⟩ := h
  exact a.own
))
def sp_Factor (K : PySem.W.Frag) : Sp := sp2 fun x z H Q _ => ∃ ls ns, RT K RS H x ls ∧ RT K RIo H z ns ∧ LvOk ls ∧ CdOk ls.length ns ∧ ∀ v H', Same H H' → FacR K H' v (ls, ns) → Q v H'
def sp_Factor___init__ (K : PySem.W.Frag) : Sp := fun vs H Q E => ∃ x y z, vs = [x, y, z] ∧ ∃ (B : Hp) (o dx : Addr), x = .ref o ∧ dx ≠ o ∧ H o = some (.ins (gA "Factor" K) dx []) ∧ H dx = some (.own o) ∧ B o = none ∧ B dx = none ∧ Same B H ∧ sp_Factor K [y, z] B (fun v H' => v = .ref o → Q .non H') E
abbrev n_Factor___init__ : List Str := ["self", "levels", "codes"]
theorem sc_Factor___init__ : FnScope n_Factor___init__ ["self", "levels", "codes"] (defScope s_Factor___init__) := ⟨rfl, rfl, rfl, by decide +kernel, rfl, by decide +kernel, by decide +kernel⟩
theorem cal_Factor___init__ (T : Tx P K mg) : FnR P w K mg base (CXW P w) 4 (mA "Factor" "__init__" K) (sp_Factor___init__ K) := @NI.run _ (by exact NI.carry : NI.Carry (by
  refine fnR_of (k := 3) T.D_Factor___init__ sc_Factor___init__ (fun _ _ _ _ _ _ us hl => match us, hl with | [_, _, _], _ => rfl) (fun vs H Q E h => ?_) (fun cdv A outer s H vs Q E hr h => ?_)
  · obtain ⟨v0, v1, v2, rfl, _⟩ := h
    rfl
  obtain ⟨v0, v1, v2, rfl, h⟩ := h
  refine ⟨_, pss_cons (ps_if (PW.pt (pw_or (pt_not (pt_val (pc (cal_are_levels T) hr (pa_cons (pv 1) pa_nil)))) (pw_or1 (pt_not (pt_val (pc (cal_are_codes T) hr (pa_cons (pv 2) (pa_cons (pe_callB (kLen K) (by rfl) T.N_len (by decide +kernel) (pa_cons (pv 1) pa_nil)) pa_nil))))))))
        (pss_one ps_never)
        (pss_nil))
      (pss_cons (SlX.ps_sl (pv 0) (pv 1))
      (pss_one (SlX.ps_sl (pv 0) (pv 2)))), ?_⟩
  obtain ⟨B, o, dx, rfl, hne, ho, hdx, hBo, hBdx, eB, h⟩ := h
  obtain ⟨_, _, hv, ls, ns, hx, hz, hl, hc, kQ⟩ := h
  cases hv
  have h12 := hl.few
  obtain ⟨p0, q0⟩ := (slN2 T.C_Factor).sl 0 "own_codes" rfl
  obtain ⟨p1, q1⟩ := (slN2 T.C_Factor).sl 1 "own_levels" rfl
  repeat walk_at "ru"
  refine ⟨_, rfl, ls, Up.up eB hx, hl, fun H1 e1 => ?_⟩
  repeat walk_at "ru"
  refine rd_lenT (Up.up (eB.trans e1) hx) ?_
  repeat walk_at "ru"
  refine ⟨_, _, rfl, ns, ls.length, Up.up (eB.trans e1) hz, rfl, by omega, hc, fun H2 e2 => ?_⟩
  have e02 := e1.trans e2
  repeat walk_at "ru"
  refine ⟨o, gA "Factor" K, dx, p1, [], 1, rfl, .inl ⟨e02 _ _ ho, rfl⟩, T.C_Factor.cl, q1, ?_⟩
  have s7 : SlX.Slt (SlX.slH H2 o (gA "Factor" K) dx (SlX.putS 1 v1 [])) o (gA "Factor" K) dx (SlX.putS 1 v1 []) := SlX.slH_slt hne
  have e7 : Same B (SlX.slH H2 o (gA "Factor" K) dx (SlX.putS 1 v1 [])) := same_slot (eB.trans e02) hBo hBdx
  generalize SlX.slH H2 o _ dx _ = H7 at s7 e7 ⊢
  repeat walk_at "ru"
  refine ⟨o, gA "Factor" K, dx, p0, _, 0, rfl, s7, T.C_Factor.cl, q0, ?_⟩
  have s8 : SlX.Slt (SlX.slH H7 o (gA "Factor" K) dx (SlX.putS 0 v2 (SlX.putS 1 v1 []))) o (gA "Factor" K) dx (SlX.putS 0 v2 (SlX.putS 1 v1 [])) := SlX.slH_slt hne
  have e8 : Same B (SlX.slH H7 o (gA "Factor" K) dx (SlX.putS 0 v2 (SlX.putS 1 v1 []))) := same_slot e7 hBo hBdx
  exact kQ (.ref o) _ e8 ⟨v2, v1, ⟨o, dx, rfl, s8⟩, Up.up e8 hx, Up.up e8 hz⟩ rfl
))
theorem ctor_Factor (T : Tx P K mg) : Ctor P w K mg base 4 "Factor" (sp_Factor K) := @NI.run _ (by exact NI.carry : NI.Carry (by
  refine ⟨_, _, _, T.G_Factor, T.C_Factor.make, cal_Factor___init__ T, fun vs H Q E h y dx h1 h2 h3 => ?_⟩
  have st : Same H (upd (upd H dx (.own y)) y (.ins (gA "Factor" K) dx [])) := fun c o e => by
    rw [upd_ne (ne_of_none e h1), upd_ne (ne_of_none e h2)]
    exact e
  obtain ⟨x, z, rfl, ls, ns, hx, hz, hl, hc, k⟩ := h
  exact ⟨_, _, _, rfl, H, y, dx, rfl, h3, upd_same, by rw [upd_ne h3, upd_same], h1, h2, st, x, z, rfl, ls, ns, hx, hz, hl, hc, fun v H' e hv => fun h => ⟨rfl, h ▸ k v H' e hv⟩⟩
))
def sp_Factor_levels (K : PySem.W.Frag) : Sp := sp1 fun x H Q _ => ∃ D, FacR K H x D ∧ ∀ v, RT K RS H v D.1 → Q v H
abbrev n_Factor_levels : List Str := ["self"]
theorem sc_Factor_levels : FnScope n_Factor_levels ["self"] (defScope s_Factor_levels) := ⟨rfl, rfl, rfl, by decide +kernel, rfl, by decide +kernel, by decide +kernel⟩
theorem cal_Factor_levels (T : Tx P K mg) : FnR P w K mg base (CXW P w) 1 (rA "property" "Factor" "levels" K) (sp_Factor_levels K) := @NI.run _ (by exact NI.carry : NI.Carry (by
  refine fnR_of (k := 0) T.D_Factor_levels sc_Factor_levels (fun _ _ _ _ _ _ us hl => match us, hl with | [_], _ => rfl) (fun vs H Q E h => ?_) (fun cdv A outer s H vs Q E hr h => ?_)
  · obtain ⟨v0, rfl, _⟩ := h
    rfl
  obtain ⟨v0, rfl, h⟩ := h
  refine ⟨_, pss_one (ps_ret (kSl K (pv 0))), ?_⟩
  obtain ⟨D, ⟨vc, vl, ho, hl, hc⟩, k⟩ := h
  repeat walk_at "ru"
  refine rd_slN (slN2 T.C_Factor) ho (i := 1) rfl rfl ?_
  exact k _ hl
))
def sp_Factor_codes (K : PySem.W.Frag) : Sp := sp1 fun x H Q _ => ∃ D, FacR K H x D ∧ ∀ v, RT K RIo H v D.2 → Q v H
abbrev n_Factor_codes : List Str := ["self"]
theorem sc_Factor_codes : FnScope n_Factor_codes ["self"] (defScope s_Factor_codes) := ⟨rfl, rfl, rfl, by decide +kernel, rfl, by decide +kernel, by decide +kernel⟩
theorem cal_Factor_codes (T : Tx P K mg) : FnR P w K mg base (CXW P w) 1 (rA "property" "Factor" "codes" K) (sp_Factor_codes K) := @NI.run _ (by exact NI.carry : NI.Carry (by
  refine fnR_of (k := 0) T.D_Factor_codes sc_Factor_codes (fun _ _ _ _ _ _ us hl => match us, hl with | [_], _ => rfl) (fun vs H Q E h => ?_) (fun cdv A outer s H vs Q E hr h => ?_)
  · obtain ⟨v0, rfl, _⟩ := h
    rfl
  obtain ⟨v0, rfl, h⟩ := h
  refine ⟨_, pss_one (ps_ret (kSl K (pv 0))), ?_⟩
  obtain ⟨D, ⟨vc, vl, ho, hl, hc⟩, k⟩ := h
  repeat walk_at "ru"
  refine rd_slN (slN2 T.C_Factor) ho (i := 0) rfl rfl ?_
  exact k _ hc
))
def sp_Factor_kind (K : PySem.W.Frag) : Sp := sp1 fun x H Q _ => Q (.str "factor") H
abbrev n_Factor_kind : List Str := ["self"]
theorem sc_Factor_kind : FnScope n_Factor_kind ["self"] (defScope s_Factor_kind) := ⟨rfl, rfl, rfl, by decide +kernel, rfl, by decide +kernel, by decide +kernel⟩
theorem cal_Factor_kind (T : Tx P K mg) : FnR P w K mg base (CXW P w) 1 (rA "property" "Factor" "kind" K) (sp_Factor_kind K) := @NI.run _ (by exact NI.carry : NI.Carry (by
  refine fnR_of (k := 0) T.D_Factor_kind sc_Factor_kind (fun _ _ _ _ _ _ us hl => match us, hl with | [_], _ => rfl) (fun vs H Q E h => ?_) (fun cdv A outer s H vs Q E hr h => ?_)
  · obtain ⟨v0, rfl, _⟩ := h
    rfl
  obtain ⟨v0, rfl, h⟩ := h
  refine ⟨_, pss_one (ps_ret (pe_gS T.S_FACTOR)), ?_⟩
  repeat walk_at "ru"
  exact h
))
def sp_Factor___len__ (K : PySem.W.Frag) : Sp := sp1 fun x H Q _ => ∃ D, FacR K H x D ∧ Q (.int (D.2.length : Int)) H
abbrev n_Factor___len__ : List Str := ["self"]
theorem sc_Factor___len__ : FnScope n_Factor___len__ ["self"] (defScope s_Factor___len__) := ⟨rfl, rfl, rfl, by decide +kernel, rfl, by decide +kernel, by decide +kernel⟩
theorem cal_Factor___len__ (T : Tx P K mg) : FnR P w K mg base (CXW P w) 1 (mA "Factor" "__len__" K) (sp_Factor___len__ K) := @NI.run _ (by exact NI.carry : NI.Carry (by
  refine fnR_of (k := 0) T.D_Factor___len__ sc_Factor___len__ (fun _ _ _ _ _ _ us hl => match us, hl with | [_], _ => rfl) (fun vs H Q E h => ?_) (fun cdv A outer s H vs Q E hr h => ?_)
  · obtain ⟨v0, rfl, _⟩ := h
    rfl
  obtain ⟨v0, rfl, h⟩ := h
  refine ⟨_, pss_one (ps_ret (pe_callB (kLen K) (by rfl) T.N_len (by decide +kernel) (pa_cons (kSl K (pv 0)) pa_nil))), ?_⟩
  obtain ⟨D, ⟨vc, vl, ho, hl, hc⟩, k⟩ := h
  repeat walk_at "ru"
  refine rd_slN (slN2 T.C_Factor) ho (i := 0) rfl rfl ?_
  repeat walk_at "ru"
  exact rd_lenT (K := K) hc k
))
def NumR (K : PySem.W.Frag) : Rl (List (Option Rat)) := fun H v D => ∃ vr, ObN (gA "Numbers" K) H v [vr] ∧ RT K (RQo K) H vr D
instance : Up (NumR K) := ⟨fun e ⟨vr, a, b⟩ => ⟨vr, ObN.up e a, Up.up e b⟩⟩
theorem NumR.own {K : PySem.W.Frag} {H : Hp} {v : V} {D : List (Option Rat)} (h : NumR K H v D) : Own (gA "Numbers" K) H v := @NI.run _ (by exact NI.carry : NI.Carry (by
  obtain ⟨_, a, _⟩ := h
  exact a.own
))
def sp_Numbers (K : PySem.W.Frag) : Sp := sp1 fun x H Q _ => ∃ qs, RT K (RQo K) H x qs ∧ qs.length ≤ 200 ∧ ∀ v H', Same H H' → NumR K H' v qs → Q v H'
def sp_Numbers___init__ (K : PySem.W.Frag) : Sp := fun vs H Q E => ∃ x y, vs = [x, y] ∧ ∃ (B : Hp) (o dx : Addr), x = .ref o ∧ dx ≠ o ∧ H o = some (.ins (gA "Numbers" K) dx []) ∧ H dx = some (.own o) ∧ B o = none ∧ B dx = none ∧ Same B H ∧ sp_Numbers K [y] B (fun v H' => v = .ref o → Q .non H') E
abbrev n_Numbers___init__ : List Str := ["self", "ratios"]
theorem sc_Numbers___init__ : FnScope n_Numbers___init__ ["self", "ratios"] (defScope s_Numbers___init__) := ⟨rfl, rfl, rfl, by decide +kernel, rfl, by decide +kernel, by decide +kernel⟩
theorem cal_Numbers___init__ (T : Tx P K mg) : FnR P w K mg base (CXW P w) 3 (mA "Numbers" "__init__" K) (sp_Numbers___init__ K) := @NI.run _ (by exact NI.carry : NI.Carry (by
  refine fnR_of (k := 2) T.D_Numbers___init__ sc_Numbers___init__ (fun _ _ _ _ _ _ us hl => match us, hl with | [_, _], _ => rfl) (fun vs H Q E h => ?_) (fun cdv A outer s H vs Q E hr h => ?_)
  · obtain ⟨v0, v1, rfl, _⟩ := h
    rfl
  obtain ⟨v0, v1, rfl, h⟩ := h
  refine ⟨_, pss_cons (ps_if (pt_not (pt_val (pc (cal_are_amounts T) hr (pa_cons (pv 1) pa_nil))))
        (pss_one ps_never)
        (pss_nil))
      (pss_one (SlX.ps_sl (pv 0) (pv 1))), ?_⟩
  obtain ⟨B, o, dx, rfl, hne, ho, hdx, hBo, hBdx, eB, h⟩ := h
  obtain ⟨_, hv, qs, hx, hn, kQ⟩ := h
  cases hv
  obtain ⟨p0, q0⟩ := T.C_Numbers.sl 0 "own_ratios" rfl
  repeat walk_at "ru"
  refine ⟨_, rfl, qs, Up.up eB hx, hn, fun H1 e1 => ?_⟩
  repeat walk_at "ru"
  refine ⟨o, gA "Numbers" K, dx, p0, [], 0, rfl, .inl ⟨e1 _ _ ho, rfl⟩, T.C_Numbers.cl, q0, ?_⟩
  have s7 : SlX.Slt (SlX.slH H1 o (gA "Numbers" K) dx (SlX.putS 0 v1 [])) o (gA "Numbers" K) dx (SlX.putS 0 v1 []) := SlX.slH_slt hne
  have e7 : Same B (SlX.slH H1 o (gA "Numbers" K) dx (SlX.putS 0 v1 [])) := same_slot (eB.trans e1) hBo hBdx
  exact kQ (.ref o) _ e7 ⟨v1, ⟨o, dx, rfl, s7⟩, Up.up e7 hx⟩ rfl
))
theorem ctor_Numbers (T : Tx P K mg) : Ctor P w K mg base 3 "Numbers" (sp_Numbers K) := @NI.run _ (by exact NI.carry : NI.Carry (by
  refine ⟨_, _, _, T.G_Numbers, T.C_Numbers.make, cal_Numbers___init__ T, fun vs H Q E h y dx h1 h2 h3 => ?_⟩
  have st : Same H (upd (upd H dx (.own y)) y (.ins (gA "Numbers" K) dx [])) := fun c o e => by
    rw [upd_ne (ne_of_none e h1), upd_ne (ne_of_none e h2)]
    exact e
  obtain ⟨x, rfl, qs, hx, hn, k⟩ := h
  exact ⟨_, _, rfl, H, y, dx, rfl, h3, upd_same, by rw [upd_ne h3, upd_same], h1, h2, st, x, rfl, qs, hx, hn, fun v H' e hv => fun h => ⟨rfl, h ▸ k v H' e hv⟩⟩
))
def sp_Numbers_ratios (K : PySem.W.Frag) : Sp := sp1 fun x H Q _ => ∃ D, NumR K H x D ∧ ∀ v, RT K (RQo K) H v D → Q v H
abbrev n_Numbers_ratios : List Str := ["self"]
theorem sc_Numbers_ratios : FnScope n_Numbers_ratios ["self"] (defScope s_Numbers_ratios) := ⟨rfl, rfl, rfl, by decide +kernel, rfl, by decide +kernel, by decide +kernel⟩
theorem cal_Numbers_ratios (T : Tx P K mg) : FnR P w K mg base (CXW P w) 1 (rA "property" "Numbers" "ratios" K) (sp_Numbers_ratios K) := @NI.run _ (by exact NI.carry : NI.Carry (by
  refine fnR_of (k := 0) T.D_Numbers_ratios sc_Numbers_ratios (fun _ _ _ _ _ _ us hl => match us, hl with | [_], _ => rfl) (fun vs H Q E h => ?_) (fun cdv A outer s H vs Q E hr h => ?_)
  · obtain ⟨v0, rfl, _⟩ := h
    rfl
  obtain ⟨v0, rfl, h⟩ := h
  refine ⟨_, pss_one (ps_ret (kSl K (pv 0))), ?_⟩
  obtain ⟨D, ⟨vr, ho, hr1⟩, k⟩ := h
  repeat walk_at "ru"
  refine rd_slN T.C_Numbers ho (i := 0) rfl rfl ?_
  exact k _ hr1
))
def sp_Numbers_kind (K : PySem.W.Frag) : Sp := sp1 fun x H Q _ => Q (.str "number") H
abbrev n_Numbers_kind : List Str := ["self"]
theorem sc_Numbers_kind : FnScope n_Numbers_kind ["self"] (defScope s_Numbers_kind) := ⟨rfl, rfl, rfl, by decide +kernel, rfl, by decide +kernel, by decide +kernel⟩
theorem cal_Numbers_kind (T : Tx P K mg) : FnR P w K mg base (CXW P w) 1 (rA "property" "Numbers" "kind" K) (sp_Numbers_kind K) := @NI.run _ (by exact NI.carry : NI.Carry (by
  refine fnR_of (k := 0) T.D_Numbers_kind sc_Numbers_kind (fun _ _ _ _ _ _ us hl => match us, hl with | [_], _ => rfl) (fun vs H Q E h => ?_) (fun cdv A outer s H vs Q E hr h => ?_)
  · obtain ⟨v0, rfl, _⟩ := h
    rfl
  obtain ⟨v0, rfl, h⟩ := h
  refine ⟨_, pss_one (ps_ret (pe_gS T.S_NUMBER)), ?_⟩
  repeat walk_at "ru"
  exact h
))
def sp_Numbers___len__ (K : PySem.W.Frag) : Sp := sp1 fun x H Q _ => ∃ D, NumR K H x D ∧ Q (.int (D.length : Int)) H
abbrev n_Numbers___len__ : List Str := ["self"]
theorem sc_Numbers___len__ : FnScope n_Numbers___len__ ["self"] (defScope s_Numbers___len__) := ⟨rfl, rfl, rfl, by decide +kernel, rfl, by decide +kernel, by decide +kernel⟩
theorem cal_Numbers___len__ (T : Tx P K mg) : FnR P w K mg base (CXW P w) 1 (mA "Numbers" "__len__" K) (sp_Numbers___len__ K) := @NI.run _ (by exact NI.carry : NI.Carry (by
  refine fnR_of (k := 0) T.D_Numbers___len__ sc_Numbers___len__ (fun _ _ _ _ _ _ us hl => match us, hl with | [_], _ => rfl) (fun vs H Q E h => ?_) (fun cdv A outer s H vs Q E hr h => ?_)
  · obtain ⟨v0, rfl, _⟩ := h
    rfl
  obtain ⟨v0, rfl, h⟩ := h
  refine ⟨_, pss_one (ps_ret (pe_callB (kLen K) (by rfl) T.N_len (by decide +kernel) (pa_cons (kSl K (pv 0)) pa_nil))), ?_⟩
  obtain ⟨D, ⟨vr, ho, hr1⟩, k⟩ := h
  repeat walk_at "ru"
  refine rd_slN T.C_Numbers ho (i := 0) rfl rfl ?_
  repeat walk_at "ru"
  exact rd_lenT (K := K) hr1 k
))
inductive ColD
  | fac (ls : List Str) (cs : List (Option Int))
  | num (qs : List (Option Rat))
  deriving DecidableEq
def ColD.long : ColD → Nat
  | .fac _ cs => cs.length
  | .num qs => qs.length
def ColR (K : PySem.W.Frag) : Rl ColD := fun H v D => match D with
  | .fac ls cs => FacR K H v (ls, cs)
  | .num qs => NumR K H v qs
instance : Up (ColR K) := ⟨fun {H H' v D} e h => by
  cases D with
  | fac ls cs => exact Up.up (R := FacR K) e h
  | num qs => exact Up.up (R := NumR K) e h⟩
def sp_is_column (K : PySem.W.Frag) : Sp := sp1 fun x H Q _ => ∃ D, ColR K H x D ∧ Q (.bl true) H
abbrev n_is_column : List Str := ["value"]
theorem sc_is_column : FnScope n_is_column ["value"] (defScope s_is_column) := ⟨rfl, rfl, rfl, by decide +kernel, rfl, by decide +kernel, by decide +kernel⟩
theorem cal_is_column (T : Tx P K mg) : Cal P w K mg base 1 "is_column" (sp_is_column K) := @NI.run _ (by exact NI.carry : NI.Carry (by
  refine cal_of (k := 0) T.G_is_column T.D_is_column sc_is_column (fun _ _ _ _ _ _ us hl => match us, hl with | [_], _ => rfl) (fun vs H Q E h => ?_) (fun cdv A outer s H vs Q E hr h => ?_)
  · obtain ⟨v0, rfl, _⟩ := h
    rfl
  obtain ⟨v0, rfl, h⟩ := h
  refine ⟨_, pss_one (ps_ret (pe_or (pe_callB (kIsi K) (by rfl) T.N_isinstance (by decide +kernel) (pa_cons (pv 0) (pa_cons (pe_gC T.G_Factor) pa_nil))) (pe_one (pe_callB (kIsi K) (by rfl) T.N_isinstance (by decide +kernel) (pa_cons (pv 0) (pa_cons (pe_gC T.G_Numbers) pa_nil)))))), ?_⟩
  obtain ⟨D, hx, k⟩ := h
  cases D with
  | fac ls cs =>
    repeat walk_at "ru"
    refine rd_isiY (HasTy.own (slN2 T.C_Factor) (FacR.own hx)) ?_ (.own _) T.K_Factor_Factor
    repeat walk_at "ru"
    exact k
  | num qs =>
    repeat walk_at "ru"
    refine rd_isiN (HasTy.own T.C_Numbers (NumR.own hx)) ?_ (.own _) T.K_Numbers_Factor
    repeat walk_at "ru"
    refine rd_isiY (HasTy.own T.C_Numbers (NumR.own hx)) ?_ (.own _) T.K_Numbers_Numbers
    exact k
))
abbrev Cols := List (Str × ColD)
def keyed (cs : Cols) : List (Key × ColD) := cs.map fun c => (.inr c.1, c.2)
structure CsOk (cs : Cols) (n : Nat) : Prop where
  nm : ∀ c ∈ cs, nameB c.1 = true
  nd : (cs.map (·.1)).Nodup
  few : cs.length ≤ 12
  len : ∀ c ∈ cs, c.2.long = n
theorem slt_ud {C o dx d : Addr} {H : Hp} {kvs : List (Key × V)} {vs : List (Option V)} (e : H d = some (.dK kvs)) (h : SlX.Slt H o C dx vs) : SlX.Slt (hd d H) o C dx vs := @NI.run _ (by exact NI.carry : NI.Carry (by
  rcases h with ⟨h1, h2⟩ | ⟨h1, h2⟩
  · exact .inl ⟨hd_keep e h1 (fun _ z => nomatch z), h2⟩
  · exact .inr ⟨hd_keep e h1 (fun _ z => nomatch z), hd_keep e h2 (fun _ z => nomatch z)⟩
))
theorem obn_ud {C d : Addr} {H : Hp} {kvs : List (Key × V)} {v : V} {xs : List V} (e : H d = some (.dK kvs)) (h : ObN C H v xs) : ObN C (hd d H) v xs := @NI.run _ (by exact NI.carry : NI.Carry (by
  obtain ⟨o, dx, ev, s⟩ := h
  exact ⟨o, dx, ev, slt_ud e s⟩
))
instance {C : Addr} : Ud (RQ C) := ⟨fun e ⟨o, dx, ev, s⟩ => ⟨o, dx, ev, slt_ud e s⟩⟩
instance {K : PySem.W.Frag} : Ud (ColR K) := ⟨fun {H d kvs v D} e h => by
  cases D with
  | fac ls cs =>
    obtain ⟨vc, vl, h1, h2, h3⟩ := h
    exact ⟨vc, vl, obn_ud e h1, Ud.ud e h2, Ud.ud e h3⟩
  | num qs =>
    obtain ⟨vr, h1, h2⟩ := h
    exact ⟨vr, obn_ud e h1, Ud.ud e h2⟩⟩
theorem rd_dg {td ty : TE} {σ : L2.St} {H : Hp} {Q : VK} (q : td σ H fun x H1 => ty σ H1 fun y H2 => ∃ a v, x = .ref a ∧ DGet H2 a y (some v) ∧ Q v H2) : tDGet td ty σ H Q := q
theorem look_keyed {β : Type} : ∀ {cs : List (Str × β)} {c : Str × β}, (cs.map (·.1)).Nodup → c ∈ cs → lookA (cs.map fun c => ((.inr c.1 : Key), c.2)) (.inr c.1) = some c.2
  | b :: cs, c, hn, hc => by
    rw [List.map_cons, List.nodup_cons] at hn
    unfold lookA
    rw [List.map_cons, List.find?_cons]
    by_cases e : b.1 = c.1
    · have hbc : b = c := by
        rcases List.mem_cons.mp hc with h | h
        · exact h.symm
        · exact absurd (List.mem_map.mpr ⟨c, h, e.symm⟩) hn.1
      rw [hbc]
      simp
    · have h : c ∈ cs := by
        rcases List.mem_cons.mp hc with h | h
        · exact absurd (h ▸ rfl) e
        · exact h
      simp only [show ¬ ((.inr b.1 : Key) = .inr c.1) from fun z => e (Sum.inr.inj z), decide_false]
      exact look_keyed hn.2 h
theorem keyed_keys {cs : Cols} : (keyed cs).map (·.1) = (cs.map (·.1)).map Sum.inr := @NI.run _ (by exact NI.carry : NI.Carry (by
  unfold keyed
  rw [List.map_map, List.map_map]
  rfl
))
theorem mem_names {cs : Cols} {a : Str} (h : a ∈ cs.map (·.1)) : ∃ c ∈ cs, c.1 = a := @NI.run _ (by exact NI.carry : NI.Carry (by
  obtain ⟨c, hc, e⟩ := List.mem_map.mp h
  exact ⟨c, hc, e⟩
))
theorem col_get {β : Type} {R : Rl β} {H : Hp} {d : Addr} {cs : List (Str × β)} {c : Str × β} {C : V → Prop} (h : DA R H d (cs.map fun c => ((.inr c.1 : Key), c.2)) ∨ DL R H d (cs.map fun c => ((.inr c.1 : Key), c.2))) (hn : (cs.map (·.1)).Nodup) (hc : c ∈ cs) (q : ∀ v, R H v c.2 → C v) :
    ∃ a v, V.ref d = .ref a ∧ DGet H a (V.str c.1) (some v) ∧ C v := @NI.run _ (by exact NI.carry : NI.Carry (by
  obtain ⟨a, o, e, g, z⟩ := DA.dget (R := R) h (k := .inr c.1) (C := fun o => ∃ v, o = some v ∧ R H v c.2) fun o h1 h2 => h2 _ (look_keyed hn hc)
  obtain ⟨v, rfl, hv⟩ := z
  exact ⟨a, v, e, g, q v hv⟩
))
theorem nameB_len {z : Str} (h : nameB z = true) : 1 ≤ z.length ∧ z.length ≤ 8 := @NI.run _ (by exact NI.carry : NI.Carry (by
  unfold nameB runB at h
  obtain ⟨h1, _⟩ := Bool.and_eq_true_iff.mp h
  obtain ⟨h2, _⟩ := Bool.and_eq_true_iff.mp h1
  exact of_decide_eq_true h2
))
def sp_are_columns (K : PySem.W.Frag) : Sp := sp1 fun x H Q _ => ∃ d cs n, x = .ref d ∧ DA (ColR K) H d (keyed cs) ∧ CsOk cs n ∧ ∀ H', Same H H' → Q (.bl true) H'
abbrev n_are_columns : List Str := ["value", "name"]
theorem sc_are_columns : FnScope n_are_columns ["value"] (defScope s_are_columns) := ⟨rfl, rfl, rfl, by decide +kernel, rfl, by decide +kernel, by decide +kernel⟩
theorem cal_are_columns (T : Tx P K mg) : Cal P w K mg base 3 "are_columns" (sp_are_columns K) := @NI.run _ (by exact NI.carry : NI.Carry (by
  refine cal_of (k := 2) T.G_are_columns T.D_are_columns sc_are_columns (fun _ _ _ _ _ _ us hl => match us, hl with | [_], _ => rfl) (fun vs H Q E h => ?_) (fun cdv A outer s H vs Q E hr h => ?_)
  · obtain ⟨v0, rfl, _⟩ := h
    rfl
  obtain ⟨v0, rfl, h⟩ := h
  refine ⟨_, pss_one (ps_ret (pe_and (pe_callB (kIsi K) (by rfl) T.N_isinstance (by decide +kernel) (pa_cons (pv 0) (pa_cons (pe_bltn (v := .ty "dict") (by rfl) T.N_dict (by decide +kernel) rfl) pa_nil))) (pe_one (pe_callB (kAll K) (by rfl) T.N_all (by decide +kernel) (pa_cons (pe_lock (pe_lc (own := [("name", 1)]) (g := gName 1) (tt := tYes) (by rfl) sc_are_columns.nd (pi_keys (pv 0)) (blkOk_by (own := [("name", 1)]) (N := n_are_columns) (by rfl)) (fun _ _ _ _ _ => pg_name (i := 1) sc_are_columns.nd rfl (by first | exact Or.inl rfl | exact Or.inr rfl)) (fun _ _ _ _ _ => pts_nil) (fun _ _ _ _ _ => pe_hid (pe_and (pc (cal_is_name T) hr (pa_cons (pv 1) pa_nil)) (pe_one (pc (cal_is_column T) hr (pa_cons (pe_dget (hu_of hr) (pv 0) (pv 1) (fun _ _ => rfl)) pa_nil))))))) pa_nil))))), ?_⟩
  obtain ⟨d, cs, n, rfl, hd, hc, k⟩ := h
  obtain ⟨kvs, hk, hkv, hL⟩ := hd.lock
  have hkeys := (kvs_keys (l := keyed cs) hkv).trans keyed_keys
  have h12 := hc.few
  repeat walk_at "ru"
  refine rd_isiY (.inl (.base (.dK hk))) ?_ (.ty "dict")
  repeat walk_at "ru"
  refine lockD hk fun od => ?_
  refine rd_lcKyK (by rfl) upd_same ?_
  refine lcK_name (S := RB) (K := K) (R := RS) (wk_keysS upd_same hkeys) (by rw [List.length_map]; have := (by decide : 12 ≤ sizeLine); omega) (fun _ => true) (fun v H4 e4 hv => ?_) (fun z G x hz2 e4 hx2 Kt hk2 => ?_)
  · refine ⟨e4 _ _ upd_same, ?_⟩
    repeat walk_at "ru"
    refine rd_all (rl_unlockK (e4 _ _ upd_same) (fun _ _ h => h) hv) ?_
    rw [show ((cs.map (·.1)).map fun _ => true).all id = true by rw [List.all_map]; exact List.all_eq_true.mpr fun z hz => rfl]
    exact k _ (same_lockK hk e4)
  · obtain rfl : x = V.str z := hx2
    obtain ⟨c, hcm, rfl⟩ := mem_names hz2
    have hnb := hc.nm c hcm
    repeat walk_at "ru"
    refine ⟨_, rfl, some c.1, ⟨rfl, by have := nameB_len hnb; omega⟩, fun H5 e5 => ?_⟩
    rw [show oR nameB (some c.1) = true from hnb]
    repeat walk_at "ru"
    refine rd_dg ?_
    repeat walk_at "ru"
    refine col_get (.inr ((hL od).up (e4.trans e5))) hc.nd hcm fun v hv => ?_
    repeat walk_at "ru"
    exact ⟨_, rfl, _, hv, hk2 _ _ e5 rfl⟩
))
theorem lenU_at {K : PySem.W.Frag} {H : Hp} {x : V} {D : ColD} {Q : VK} (h : ColR K H x D) (hl : D.long ≤ 200) (q : Q (.int (D.long : Int)) H) :
    (∃ y, [x] = [y] ∧ Own (gA "Factor" K) H y ∧ sp_Factor___len__ K [y] H (fun z H' => ∃ n : Int, z = .int n ∧ 0 ≤ n ∧ n < 2 ^ 63 ∧ Q z H') E0) ∨ (∃ y, [x] = [y] ∧ Own (gA "Numbers" K) H y ∧ sp_Numbers___len__ K [y] H (fun z H' => ∃ n : Int, z = .int n ∧ 0 ≤ n ∧ n < 2 ^ 63 ∧ Q z H') E0) := @NI.run _ (by exact NI.carry : NI.Carry (by
  cases D with
  | fac ls cs =>
    refine .inl ⟨x, rfl, FacR.own h, x, rfl, _, h, _, rfl, by show (0 : Int) ≤ (cs.length : Int); omega, ?_, q⟩
    have hl' : cs.length ≤ 200 := hl
    show (cs.length : Int) < 2 ^ 63
    omega
  | num qs =>
    refine .inr ⟨x, rfl, NumR.own h, x, rfl, _, h, _, rfl, by show (0 : Int) ≤ (qs.length : Int); omega, ?_, q⟩
    have hl' : qs.length ≤ 200 := hl
    show (qs.length : Int) < 2 ^ 63
    omega
))
def RLe (y : V) (n : Nat) : Prop := y = .int (n : Int) ∨ y = .non
def sp_require_length (K : PySem.W.Frag) : Sp := sp2 fun x y H Q _ => ∃ d cs n, x = .ref d ∧ RLe y n ∧ DA (ColR K) H d (keyed cs) ∧ CsOk cs n ∧ n ≤ 200 ∧ ∀ H', Same H H' → Q .non H'
abbrev n_require_length : List Str := ["columns", "total", "lengths", "name", "length"]
theorem sc_require_length : FnScope n_require_length ["columns", "total"] (defScope s_require_length) := ⟨rfl, rfl, rfl, by decide +kernel, rfl, by decide +kernel, by decide +kernel⟩
theorem cal_require_length (T : Tx P K mg) : Cal P w K mg base 3 "require_length" (sp_require_length K) := @NI.run _ (by exact NI.carry : NI.Carry (by
  refine cal_of (k := 2) T.G_require_length T.D_require_length sc_require_length (fun _ _ _ _ _ _ us hl => match us, hl with | [_, _], _ => rfl) (fun vs H Q E h => ?_) (fun cdv A outer s H vs Q E hr h => ?_)
  · obtain ⟨v0, v1, rfl, _⟩ := h
    rfl
  obtain ⟨v0, v1, rfl, h⟩ := h
  refine ⟨_, pss_cons (ps_if (pt_cmpR op_gt (pe_callB call_lenD (by rfl) T.N_len (by decide +kernel) (pa_cons (pv 0) pa_nil)) (pe_gI T.I_MAX_COLUMNS) (nomark _))
        (pss_one ps_never)
        (pss_nil))
      (pss_cons (ps_set (i := 2) sc_require_length.nd rfl (by first | exact Or.inl rfl | exact Or.inr rfl) (pe_lc (own := [("name", 3)]) (g := gName 3) (tt := tYes) (by rfl) sc_require_length.nd (kPiL K (pe_callB (call_sortedD rfl) (by rfl) T.N_sorted (by decide +kernel) (pa_cons (pv 0) pa_nil))) (blkOk_by (own := [("name", 3)]) (N := n_require_length) (by rfl)) (fun _ _ _ _ _ => pg_name (i := 3) sc_require_length.nd rfl (by first | exact Or.inl rfl | exact Or.inr rfl)) (fun _ _ _ _ _ => pts_nil) (fun _ _ _ _ _ => pe_hid (pe_callB (call_lenU (cal_Factor___len__ T) T.O_Factor___len__ (cal_Numbers___len__ T) T.O_Numbers___len__ (hr.mono (by decide)) (hr.mono (by decide))) (by rfl) T.N_len (by decide +kernel) (pa_cons (pe_dget (hu_of hr) (pv 0) (pv 3) (fun _ _ => rfl)) pa_nil)))))
      (pss_one (ps_if (pt_val (pe_callB (kAny K) (by rfl) T.N_any (by decide +kernel) (pa_cons (pe_lc (own := [("length", 4)]) (g := gName 4) (tt := tYes) (by rfl) sc_require_length.nd (kPiL K (pv 2)) (blkOk_by (own := [("length", 4)]) (N := n_require_length) (by rfl)) (fun _ _ _ _ _ => pg_name (i := 4) sc_require_length.nd rfl (by first | exact Or.inl rfl | exact Or.inr rfl)) (fun _ _ _ _ _ => pts_nil) (fun _ _ _ _ _ => pe_hid (pe_or (pe_cmpR op_ne (pv 4) (pe_ix (kIxL K) (pv 2) pe_int (fun _ _ => rfl)) (nomark _)) (pe_one (pe_and (pe_cmpR op_notN (pv 1) pe_non (nomark _)) (pe_one (pe_cmpR op_ne (pv 4) (pv 1) (nomark _)))))))) pa_nil)))
        (pss_one ps_never)
        (pss_nil)))), ?_⟩
  obtain ⟨d, cs, n, rfl, hy0, hd, hc, hn, k⟩ := h
  obtain ⟨kvs, hk, hkv⟩ := id hd
  have hkeys := (kvs_keys (l := keyed cs) hkv).trans keyed_keys
  have h12 := hc.few
  repeat walk_at "ru"
  refine ⟨d, kvs, rfl, hk, ?_⟩
  repeat walk_at "ru"
  have hkl : kvs.length = cs.length := by rw [Paired.length hkv]; exact List.length_map _
  rw [decide_eq_false (show ¬ ((12 : Int) < (kvs.length : Int)) by omega)]
  repeat walk_at "ru"
  refine ⟨d, kvs, _, rfl, .inl hk, hkeys, by rw [List.length_map]; omega, fun ys p hys hs hp => ?_⟩
  have hy : RL K RS (upd H p (.lst (ys.map V.str))) (.ref p) ys := RL.mk hp RAll.strs (by rw [List.length_map, hys.length_eq, List.length_map]; have := (by decide : 12 ≤ sizeLine); omega)
  have e6 : Same H (upd H p (.lst (ys.map V.str))) := Same.new hp
  generalize upd H p (.lst (ys.map V.str)) = H6 at hy e6 ⊢
  refine lcL hy fun J W hz => lcK_name (S := RI) (K := K) W hz (fun _ => (n : Int)) (fun v H7 e7 hv => ?_) (fun z G x hz2 e7 hx2 Kt hk2 => ?_)
  · repeat walk_at "ru"
    refine lcL hv fun J W hz => lcK_name (S := RB) (K := K) W hz (fun _ => false) (fun v8 H8 e8 hv8 => ?_) (fun z G x hz2 e8 hx2 Kt hk2 => ?_)
    · repeat walk_at "ru"
      refine rd_any hv8 ?_
      rw [show ((ys.map fun _ => (n : Int)).map fun _ => false).any id = false by
        rw [List.any_map]; exact List.any_eq_false.mpr fun z hz => Bool.false_ne_true]
      repeat walk_at "ru"
      exact k _ (e6.trans (e7.trans e8))
    · obtain ⟨z', _, rfl⟩ := List.mem_map.mp hz2
      obtain rfl : x = V.int (n : Int) := hx2
      have hne : 0 < ys.length := by
        rw [← List.length_map (f := fun _ => (n : Int))]
        exact List.length_pos_of_mem hz2
      repeat walk_at "ru"
      refine rd_ixL (n := 0) (a := (n : Int)) (Up.up e8 hv) (by rw [List.getElem?_map, List.getElem?_eq_getElem hne]; rfl) (fun w hw => ?_)
      obtain rfl : w = V.int (n : Int) := hw
      repeat walk_at "ru"
      rw [decide_eq_true rfl]
      repeat walk_at "ru"
      rcases hy0 with rfl | rfl
      · refine ⟨rfl, ?_⟩
        rw [decide_eq_false (show ¬ (V.int (n : Int) = V.non) from fun h => by cases h)]
        repeat walk_at "ru"
        rw [decide_eq_true rfl]
        exact hk2 _ _ (Same.refl _) rfl
      · refine ⟨rfl, ?_⟩
        rw [decide_eq_true rfl]
        repeat walk_at "ru"
        exact hk2 _ _ (Same.refl _) rfl
  · obtain rfl : x = V.str z := hx2
    obtain ⟨c, hcm, rfl⟩ := mem_names (hys.mem_iff.mp hz2)
    repeat walk_at "ru"
    refine rd_dg ?_
    repeat walk_at "ru"
    refine col_get (.inl (hd.up (e6.trans e7))) hc.nd hcm fun v hv => ?_
    repeat walk_at "ru"
    refine lenU_at hv (by rw [hc.len c hcm]; exact hn) ?_
    rw [hc.len c hcm]
    exact hk2 _ _ (Same.refl _) rfl
))
def RAt {α : Type} (R : Rl α) (B : Hp) : Rl α := fun _ v a => R B v a
instance {α : Type} {R : Rl α} {B : Hp} : Up (RAt R B) := ⟨fun _ h => h⟩
instance {α : Type} {R : Rl α} {B : Hp} : Ud (RAt R B) := ⟨fun _ h => h⟩
theorem perm_map_inv {α β : Type} {f : α → β} {ys zs : List β} (h : ys.Perm zs) : ∀ l : List α, zs = l.map f → ∃ l' : List α, l'.Perm l ∧ l'.map f = ys := @NI.run _ (by exact NI.carry : NI.Carry (by
  induction h with
  | nil => exact fun l e => ⟨l, .refl _, e.symm⟩
  | cons x _ ih =>
    intro l e
    cases l with
    | nil => cases e
    | cons a l =>
      rw [List.map_cons] at e
      obtain ⟨e1, e2⟩ := List.cons_eq_cons.mp e
      obtain ⟨l', h1, h2⟩ := ih l e2
      exact ⟨a :: l', h1.cons a, by rw [List.map_cons, h2, e1]⟩
  | swap x y m =>
    intro l e
    match l, e with
    | [], e => cases e
    | [_], e => cases e
    | a :: b :: l, e =>
      rw [List.map_cons, List.map_cons] at e
      obtain ⟨e1, e2⟩ := List.cons_eq_cons.mp e
      obtain ⟨e3, e4⟩ := List.cons_eq_cons.mp e2
      exact ⟨b :: a :: l, .swap a b l, by rw [List.map_cons, List.map_cons, ← e1, ← e3, ← e4]⟩
  | trans _ _ ih1 ih2 =>
    intro l e
    obtain ⟨l2, h1, h2⟩ := ih2 l e
    obtain ⟨l3, h3, h4⟩ := ih1 l2 h2.symm
    exact ⟨l3, h3.trans h1, h4⟩
))
theorem foldl_puts {α β : Type} {kf : α → Key} {vf : α → β} : ∀ {as : List α} {l : List (Key × β)}, (as.map kf).Nodup → (∀ a ∈ as, ∀ c ∈ l, c.1 ≠ kf a) → as.foldl (fun l a => putA l (kf a) (vf a)) l = l ++ as.map fun a => (kf a, vf a)
  | [], l, _, _ => by simp
  | a :: as, l, hn, h => by
    rw [List.map_cons, List.nodup_cons] at hn
    have e : putA l (kf a) (vf a) = l ++ [(kf a, vf a)] := by
      unfold putA
      rw [if_neg]
      intro z
      obtain ⟨c, hm, hc⟩ := List.any_eq_true.mp z
      exact h a List.mem_cons_self c hm (of_decide_eq_true hc)
    rw [List.foldl_cons, e, foldl_puts hn.2 (fun b hb c hc => ?_)]
    · simp
    · rcases List.mem_append.mp hc with hc | hc
      · exact h b (List.mem_cons_of_mem _ hb) c hc
      · rw [List.mem_singleton.mp hc]
        exact fun z => hn.1 (by rw [show kf a = kf b from z]; exact List.mem_map_of_mem hb)
theorem puts_nodup {α β : Type} {kf : α → Key} {vf : α → β} {as : List α} (h : (as.map kf).Nodup) : putsA kf vf as = as.map fun a => (kf a, vf a) := @NI.run _ (by exact NI.carry : NI.Carry (by
  unfold putsA
  rw [foldl_puts h (fun _ _ _ hc => absurd hc List.not_mem_nil), List.nil_append]
))
def RNm : Rl (Str × ColD) := fun _ v c => v = .str c.1
instance : Up RNm := ⟨fun _ h => h⟩
theorem rl_nm {K : PySem.W.Frag} {H : Hp} {v : V} {cs : Cols} (h : RL K RS H v (cs.map (·.1))) : RL K RNm H v cs := @NI.run _ (by exact NI.carry : NI.Carry (by
  obtain ⟨p, vs, e, a, b, c⟩ := h
  refine ⟨p, vs, e, a, ?_, c⟩
  clear a c e
  induction cs generalizing vs with
  | nil => cases b; exact .nil
  | cons z ns ih =>
    cases b with
    | cons h t => exact .cons h (ih _ t)
))
structure TabD where
  cs : Cols
  n : Nat
def TabR (K : PySem.W.Frag) : Rl TabD := fun H v D => ∃ d vi, ObN (gA "Table" K) H v [.ref d, vi, .int (D.n : Int)] ∧ DA (ColR K) H d (keyed D.cs) ∧ RL K RI H vi (rgI 0 D.n)
instance {K : PySem.W.Frag} : Up (TabR K) := ⟨fun e ⟨d, vi, a, b, c⟩ => ⟨d, vi, ObN.up e a, b.up e, Up.up e c⟩⟩
theorem TabR.own {K : PySem.W.Frag} {H : Hp} {v : V} {D : TabD} (h : TabR K H v D) : Own (gA "Table" K) H v := @NI.run _ (by exact NI.carry : NI.Carry (by
  obtain ⟨_, _, a, _⟩ := h
  exact a.own
))
def RTo (z : V) (cs : Cols) (n : Nat) : Prop := z = .int (n : Int) ∨ (z = .non ∧ (cs = [] → n = 0))
theorem RTo.le {z : V} {cs : Cols} {n : Nat} (h : RTo z cs n) : RLe z n := h.imp id (·.1)
theorem max_at {K : PySem.W.Frag} {H : Hp} {x : V} {ns : List Int} {n : Int} {Q : VK} (h : RL K RI H x ns) (h0 : ns = [] → n = 0) (hm : ∀ m ∈ ns, m = n) (q : Q (.int n) H) : rMaxD K [x] [.int 0] H Q := @NI.run _ (by exact NI.carry : NI.Carry (by
  obtain ⟨p, vs, rfl, s, r, z⟩ := h
  refine ⟨p, ns, 0, rfl, rfl, ?_, fun e => h0 e ▸ q, fun m h => by rw [hm m h]; exact q⟩
  rw [← RAll.of_ints r]
  exact s
))
def sp_Table (K : PySem.W.Frag) : Sp := sp2 fun x z H Q _ => ∃ d cs n, x = .ref d ∧ RTo z cs n ∧ DA (ColR K) H d (keyed cs) ∧ CsOk cs n ∧ n ≤ 200 ∧ ∀ v H' cs', Same H H' → cs'.Perm cs → sortedS (cs'.map (·.1)) = true → TabR K H' v ⟨cs', n⟩ → Q v H'
def sp_Table___init__ (K : PySem.W.Frag) : Sp := fun vs H Q E => ∃ x y z, vs = [x, y, z] ∧ ∃ (B : Hp) (o dx : Addr), x = .ref o ∧ dx ≠ o ∧ H o = some (.ins (gA "Table" K) dx []) ∧ H dx = some (.own o) ∧ B o = none ∧ B dx = none ∧ Same B H ∧ sp_Table K [y, z] B (fun v H' => v = .ref o → Q .non H') E
abbrev n_Table___init__ : List Str := ["self", "columns", "total", "name", "lengths", "column"]
theorem sc_Table___init__ : FnScope n_Table___init__ ["self", "columns", "total"] (defScope s_Table___init__) := ⟨rfl, rfl, rfl, by decide +kernel, rfl, by decide +kernel, by decide +kernel⟩
theorem fn_Table___init__ (T : Tx P K mg) {fd : FuncData} (F : FunD K "__init__" "Table.__init__" (defArgs s_Table___init__) (defBody s_Table___init__) (defScope s_Table___init__) [] [] (mA "Table" "__init__" K) fd) : FnOk P w K mg base (CXW P w) 4 (mA "Table" "__init__" K) fd ["self", "columns", "total"] (sp_Table___init__ K) := @NI.run _ (by exact NI.carry : NI.Carry (by
  refine FunD.ok (k := 3) F sc_Table___init__ (fun vs H Q E h => ?_) (fun cdv A outer s H vs Q E hr h => ?_)
  · obtain ⟨v0, v1, v2, rfl, _⟩ := h
    rfl
  obtain ⟨v0, v1, v2, rfl, h⟩ := h
  refine ⟨_, pss_cons (ps_if (pt_not (pt_val (pc (cal_are_columns T) hr (pa_cons (pv 1) pa_nil))))
        (pss_one ps_never)
        (pss_nil))
      (pss_cons (ps_if (PW.pt (pw_and (pt_cmpR op_notN (pv 2) pe_non (nomark _)) (pw_and1 (pt_not (pt_val (pc (cal_is_within T) hr (pa_cons (pv 2) (pa_cons pe_int (pa_cons (pe_gI T.I_MAX_ROWS) pa_nil)))))))))
        (pss_one ps_never)
        (pss_nil))
      (pss_cons (ps_expr (pc (cal_require_length T) hr (pa_cons (pv 1) (pa_cons (pv 2) pa_nil))))
      (pss_cons (SlX.ps_sl (pv 0) (pe_dc (own := [("name", 3)]) (g := gName 3) (tt := tYes) (by rfl) sc_Table___init__.nd (kPiL K (pe_callB (call_sortedD rfl) (by rfl) T.N_sorted (by decide +kernel) (pa_cons (pv 1) pa_nil))) (blkOk_by (own := [("name", 3)]) (N := n_Table___init__) (by rfl)) (fun _ _ _ _ _ => pg_name (i := 3) sc_Table___init__.nd rfl (by first | exact Or.inl rfl | exact Or.inr rfl)) (fun _ _ _ _ _ => pts_nil) (fun _ _ _ _ _ => pv 3) (fun _ _ _ _ _ => pe_dget (hu_of hr) (pv 1) (pv 3) (fun _ _ => rfl))))
      (pss_cons (ps_lock (ps_setLc (i := 4) (own := [("column", 5)]) (g := gName 5) (tt := tYes) (by rfl) sc_Table___init__.nd rfl rfl (sw_true rfl rfl rfl (by decide +kernel)) (pi_values (pv 1)) (blkOk_by (own := [("column", 5)]) (N := n_Table___init__) (by rfl)) (fun _ _ _ _ _ => pg_name (i := 5) sc_Table___init__.nd rfl (by first | exact Or.inl rfl | exact Or.inr rfl)) (fun _ _ _ _ _ => pts_nil) (fun _ _ _ _ _ => pe_hid (pe_callB (call_lenU (cal_Factor___len__ T) T.O_Factor___len__ (cal_Numbers___len__ T) T.O_Numbers___len__ (hr.mono (by decide)) (hr.mono (by decide))) (by rfl) T.N_len (by decide +kernel) (pa_cons (pv 5) pa_nil)))))
      (pss_cons (SlX.ps_sl (pv 0) (pe_ifExp (pt_cmpR op_notN (pv 2) pe_non (nomark _)) (pv 2) (pe_callBK (kMaxD K rfl (hu6 hr)) (by rfl) T.N_max (by decide +kernel) (pa_cons (pv 4) pa_nil) (pk_cons pe_int pk_nil))))
      (pss_one (SlX.ps_sl (pv 0) (pe_listRg rfl (by rfl) T.N_list (prg_1 (by rfl) T.N_range (kSl K (pv 0))))))))))), ?_⟩
  obtain ⟨B, o, dx, rfl, hne, ho, hdx, hBo, hBdx, eB, h⟩ := h
  obtain ⟨y0, z0, hv, d, cs, n, rfl, hz0, hd, hc, hn, kQ⟩ := h
  cases hv
  have hz1 := hz0
  rcases hz0 with rfl | ⟨rfl, h0⟩
  all_goals
    obtain ⟨kvs, hk, hkv⟩ := id hd
    have hkeys := (kvs_keys (l := keyed cs) hkv).trans keyed_keys
    have h12 := hc.few
    obtain ⟨p0, q0⟩ := T.C_Table.sl 0 "own_columns" rfl
    obtain ⟨p1, q1⟩ := T.C_Table.sl 1 "own_indices" rfl
    obtain ⟨p2, q2⟩ := T.C_Table.sl 2 "own_total" rfl
    repeat walk_at "ru"
    refine ⟨_, rfl, d, cs, n, rfl, hd.up eB, hc, fun H1 e1 => ?_⟩
    have e01 := eB.trans e1
    repeat walk_at "ru"
    refine ⟨rfl, ?_⟩
    first
      | (rw [decide_eq_false (show ¬ (V.int (n : Int) = V.non) from fun h => by cases h)]
         repeat walk_at "ru"
         refine ⟨_, _, _, rfl, (n : Int), 0, 200, rfl, rfl, rfl, by omega, ?_⟩
         rw [decide_eq_true ⟨by omega, by omega⟩])
      | rw [decide_eq_true rfl]
    repeat walk_at "ru"
    refine ⟨_, _, rfl, d, cs, n, rfl, hz1.le, hd.up e01, hc, hn, fun H2 e2 => ?_⟩
    have e02 := e01.trans e2
    repeat walk_at "ru"
    refine ⟨d, kvs, _, rfl, .inl (e02 _ _ hk), hkeys, by rw [List.length_map]; omega, fun ys p hys hs hp => ?_⟩
    obtain ⟨cs', hpm, rfl⟩ := perm_map_inv hys cs rfl
    have hl' := hpm.length_eq
    have hy := rl_nm (RL.mk hp RAll.strs (by rw [List.length_map, List.length_map]; have := (by decide : 12 ≤ sizeLine); omega) : RL K RS (upd H2 p (.lst ((cs'.map (·.1)).map V.str))) (.ref p) (cs'.map (·.1)))
    have e3 : Same H2 (upd H2 p (.lst ((cs'.map (·.1)).map V.str))) := Same.new hp
    generalize upd H2 p (.lst ((cs'.map (·.1)).map V.str)) = H3 at hy e3 ⊢
    have e03 := e02.trans e3
    have e13 : Same H H3 := e1.trans (e2.trans e3)
    have nd' : (cs'.map fun c => (.inr c.1 : Key)).Nodup := by
      have h1 : (cs'.map (·.1)).Nodup := (hpm.map (·.1)).nodup_iff.mpr hc.nd
      rw [List.nodup_iff_pairwise_ne, List.pairwise_map] at h1 ⊢
      exact h1.imp fun h z => h (Sum.inr.inj z)
    refine dcL hy fun J W hz => dcK_map (S := RAt (ColR K) B) W hz (fun c => .inr c.1) (fun c => c.2) (fun d2 H4 e4 hd2 hD => ?_) (fun c G x hcm e4 hx => ⟨_, gok_name, by rfl, fun Kt hk2 => ?_⟩)
    · rw [puts_nodup nd'] at hD
      obtain ⟨kvs2, hk2, hkv2⟩ := hD
      have ho4 := (e13.trans e4) _ _ ho
      have hdx4 := (e13.trans e4) _ _ hdx
      have n1 : d2 ≠ o := fun z => by rw [z, e13 _ _ ho] at hd2; cases hd2
      have n2 : d2 ≠ dx := fun z => by rw [z, e13 _ _ hdx] at hd2; cases hd2
      have e04 := e03.trans e4
      repeat walk_at "ru"
      refine ⟨o, gA "Table" K, dx, p0, [], 0, rfl, .inl ⟨ho4, rfl⟩, T.C_Table.cl, q0, ?_⟩
      have s7 : SlX.Slt (SlX.slH H4 o (gA "Table" K) dx (SlX.putS 0 (.ref d2) [])) o (gA "Table" K) dx (SlX.putS 0 (.ref d2) []) := SlX.slH_slt hne
      have e7 : Same B (SlX.slH H4 o (gA "Table" K) dx (SlX.putS 0 (.ref d2) [])) := same_slot e04 hBo hBdx
      have k7 : SlX.slH H4 o (gA "Table" K) dx (SlX.putS 0 (.ref d2) []) d2 = some (.dK kvs2) := by rw [SlX.slH_ne n1 n2]; exact hk2
      generalize SlX.slH H4 o _ dx _ = H7 at s7 e7 k7 ⊢
      repeat walk_at "ru"
      refine ⟨d, .dK kvs, e7 _ _ hk, True.intro, fun od => ?_⟩
      repeat walk_at "ru"
      refine rd_lcValK ?_
      repeat walk_at "ru"
      refine ⟨d, od, kvs, rfl, upd_same, lcK_name (S := RI) (K := K) (R := RAt (ColR K) B) (wk_valsK upd_same (kvs_vals (R := RAt (ColR K) B) (H := B) hkv)) (by rw [List.length_map]; unfold keyed; rw [List.length_map]; have := (by decide : 12 ≤ sizeLine); omega) (fun D => (D.long : Int)) (fun v H8 e8 hv => ?_) (fun D G x hD2 e8 hx Kt hk3 => ?_)⟩
      · refine ⟨e8 _ _ upd_same, ?_⟩
        have e9 : Same H7 (upd H8 d (.dK kvs)) := same_lockK (e7 _ _ hk) e8
        have hv9 := rl_unlockK (u := .dK kvs) (e8 _ _ upd_same) (fun _ _ h => h) hv
        generalize upd H8 d (.dK kvs) = H9 at e9 hv9 ⊢
        repeat walk_at "ru"
        refine ⟨rfl, ?_⟩
        first
          | (rw [decide_eq_false (show ¬ (V.int (n : Int) = V.non) from fun h => by cases h)]
             repeat walk_at "ru")
          | (rw [decide_eq_true rfl]
             repeat walk_at "ru"
             refine rd_ckw ?_
             repeat walk_at "ru"
             refine max_at hv9 (n := (n : Int)) (fun e => by
               have e' := List.map_eq_nil_iff.mp (List.map_eq_nil_iff.mp e)
               rw [h0 (List.map_eq_nil_iff.mp e')]
               rfl) (fun m hm => by
               obtain ⟨D, hD1, rfl⟩ := List.mem_map.mp hm
               obtain ⟨c, hcm, rfl⟩ := List.mem_map.mp hD1
               obtain ⟨c', hcm', rfl⟩ := List.mem_map.mp hcm
               exact congrArg Nat.cast (hc.len c' hcm')) ?_
             repeat walk_at "ru")
        have s9 := Slt.up e9 s7
        refine ⟨o, gA "Table" K, dx, p2, _, 2, rfl, s9, T.C_Table.cl, q2, ?_⟩
        have s10 : SlX.Slt (SlX.slH H9 o (gA "Table" K) dx (SlX.putS 2 (.int (n : Int)) (SlX.putS 0 (.ref d2) []))) o (gA "Table" K) dx (SlX.putS 2 (.int (n : Int)) (SlX.putS 0 (.ref d2) [])) := SlX.slH_slt hne
        have e10 : Same B (SlX.slH H9 o (gA "Table" K) dx (SlX.putS 2 (.int (n : Int)) (SlX.putS 0 (.ref d2) []))) := same_slot (e7.trans e9) hBo hBdx
        have k10 : SlX.slH H9 o (gA "Table" K) dx (SlX.putS 2 (.int (n : Int)) (SlX.putS 0 (.ref d2) [])) d2 = some (.dK kvs2) := by rw [SlX.slH_ne n1 n2]; exact e9 _ _ k7
        have ho10 : ∃ u, SlX.slH H9 o (gA "Table" K) dx (SlX.putS 2 (.int (n : Int)) (SlX.putS 0 (.ref d2) [])) o = some u := ⟨_, upd_same⟩
        have hd10 : SlX.slH H9 o (gA "Table" K) dx (SlX.putS 2 (.int (n : Int)) (SlX.putS 0 (.ref d2) [])) dx = some (.xd []) := by unfold SlX.slH; rw [upd_ne hne, upd_same]
        generalize SlX.slH H9 o _ dx _ = H10 at s10 e10 k10 ho10 hd10 ⊢
        repeat walk_at "ru"
        refine rd_lstRg (rd_rg1 ?_)
        repeat walk_at "ru"
        refine ⟨o, gA "Table" K, dx, p2, _, 2, .int (n : Int), rfl, s10, T.C_Table.cl, q2, rfl, ?_⟩
        have hrg : RgOk 0 (n : Int) := RgOk.of_le (by omega) (by omega) (by omega) (by omega)
        refine ⟨_, rfl, hrg, fun q hq => ?_⟩
        have nqo : q ≠ o := fun z => by
          obtain ⟨u, hu⟩ := ho10
          rw [z, hu] at hq
          cases hq
        have nqd : q ≠ dx := fun z => by rw [z, hd10] at hq; cases hq
        have hq11 : upd H10 q (.lst (rgV 0 (n : Int))) q = some (.lst (rgV 0 (n : Int))) := upd_same
        have e11 : Same H10 (upd H10 q (.lst (rgV 0 (n : Int)))) := Same.new hq
        generalize upd H10 q _ = H11 at e11 hq11 ⊢
        repeat walk_at "ru"
        refine ⟨o, gA "Table" K, dx, p1, _, 1, rfl, Slt.up e11 s10, T.C_Table.cl, q1, ?_⟩
        have s12 : SlX.Slt (SlX.slH H11 o (gA "Table" K) dx (SlX.putS 1 (.ref q) (SlX.putS 2 (.int (n : Int)) (SlX.putS 0 (.ref d2) [])))) o (gA "Table" K) dx (SlX.putS 1 (.ref q) (SlX.putS 2 (.int (n : Int)) (SlX.putS 0 (.ref d2) []))) := SlX.slH_slt hne
        have e12 : Same B (SlX.slH H11 o (gA "Table" K) dx (SlX.putS 1 (.ref q) (SlX.putS 2 (.int (n : Int)) (SlX.putS 0 (.ref d2) [])))) := same_slot (e10.trans e11) hBo hBdx
        have k12 : SlX.slH H11 o (gA "Table" K) dx (SlX.putS 1 (.ref q) (SlX.putS 2 (.int (n : Int)) (SlX.putS 0 (.ref d2) []))) d2 = some (.dK kvs2) := by rw [SlX.slH_ne n1 n2]; exact e11 _ _ k10
        have hqn : RL K RI (SlX.slH H11 o (gA "Table" K) dx (SlX.putS 1 (.ref q) (SlX.putS 2 (.int (n : Int)) (SlX.putS 0 (.ref d2) [])))) (.ref q) (rgI 0 n) := by
          refine RL.at (vs := rgV 0 (n : Int)) (by rw [SlX.slH_ne nqo nqd]; exact hq11) ?_ ?_
          · rw [rgV_eq, show ((n : Int) - 0).toNat = n by omega]
            exact RAll.ints
          · rw [rgV_eq, List.length_map, rgI_len]
            have := (by decide : 200 ≤ sizeLine)
            omega
        exact kQ (.ref o) _ cs' e12 hpm hs ⟨d2, .ref q, ⟨o, dx, rfl, s12⟩, ⟨kvs2, k12, Paired.mono (fun _ _ q => ⟨q.1, Up.up (R := ColR K) e12 q.2⟩) hkv2⟩, hqn⟩ rfl
      · repeat walk_at "ru"
        have hf : ColR K G x D := Up.up ((hd_mono e7).trans (hd_le_upd.trans e8)) (Ud.ud hk (show ColR K B x D from hx))
        obtain ⟨c, hcm, rfl⟩ := List.mem_map.mp hD2
        obtain ⟨c', hcm', rfl⟩ := List.mem_map.mp hcm
        exact lenU_at hf (by show c'.2.long ≤ 200; rw [hc.len c' hcm']; exact hn) (hk3 _ _ (Same.refl _) rfl)
    · obtain rfl : x = V.str c.1 := hx
      repeat walk_at "ru"
      refine rd_dg ?_
      repeat walk_at "ru"
      refine col_get (R := RAt (ColR K) B) (.inl ⟨kvs, (e03.trans e4) _ _ hk, hkv⟩) hc.nd (hpm.mem_iff.mp hcm) fun v hv => ?_
      exact hk2 _ _ (Same.refl _) hv
))
theorem ctorN_Table (T : Tx P K mg) : CtorN P w K mg base 4 "Table" 1 ["total"] (sp_Table K) := @NI.run _ (by exact NI.carry : NI.Carry (by
  obtain ⟨fd, F⟩ := T.D_Table___init__
  exact ctorN_of T.G_Table T.C_Table.make T.KW_Table___init__ F (fn_Table___init__ T F) (fun _ _ _ _ _ _ us ws l1 l2 => match us, l1, ws, l2 with | [_, _], _, [_], _ => rfl) (fun vs H Q E h y dx h1 h2 h3 => by
    have st : Same H (upd (upd H dx (.own y)) y (.ins (gA "Table" K) dx [])) := fun c o e => by
      rw [upd_ne (ne_of_none e h1), upd_ne (ne_of_none e h2)]
      exact e
    obtain ⟨x, z, rfl, d, cs, n, hx, hz, hd, hc, hn, k⟩ := h
    exact ⟨_, _, _, rfl, H, y, dx, rfl, h3, upd_same, by rw [upd_ne h3, upd_same], h1, h2, st, x, z, rfl, d, cs, n, hx, hz, hd, hc, hn, fun v H' cs' e hp hs hv => fun h => ⟨rfl, h ▸ k v H' cs' e hp hs hv⟩⟩)
))
theorem cols_eq {α : Type} : ∀ {a b : List (Str × α)}, a.map (·.1) = b.map (·.1) → a.Perm b → (b.map (·.1)).Nodup → a = b
  | [], [], _, _, _ => rfl
  | [], _ :: _, e, _, _ => by cases e
  | _ :: _, [], e, _, _ => by cases e
  | x :: a, y :: b, e, p, n => by
    rw [List.map_cons, List.map_cons] at e
    obtain ⟨e1, e2⟩ := List.cons_eq_cons.mp e
    rw [List.map_cons, List.nodup_cons] at n
    have hxy : x = y := by
      rcases List.mem_cons.mp (p.mem_iff.mp List.mem_cons_self) with h | h
      · exact h
      · exact absurd (List.mem_map.mpr ⟨x, h, e1⟩) n.1
    subst hxy
    rw [cols_eq e2 ((List.perm_cons x).mp p) n.2]
def srtC {α : Type} (cs : List (Str × α)) : List (Str × α) := cs.mergeSort fun a b => !ltS b.1 a.1
theorem srtC_perm {α : Type} {cs : List (Str × α)} : (srtC cs).Perm cs := List.mergeSort_perm _ _
theorem srtC_srt {α : Type} {cs : List (Str × α)} : sortedS ((srtC cs).map (·.1)) = true := @NI.run _ (by exact NI.carry : NI.Carry (by
  refine sortedS_iff.mpr ?_
  rw [List.pairwise_map]
  have := List.pairwise_mergeSort (le := fun a b : Str × α => !ltS b.1 a.1) (fun a b c h1 h2 => ?_) (fun a b => ?_) cs
  · exact this.imp fun {a b} h => by
      have h : (!ltS b.1 a.1) = true := h
      rw [Bool.not_eq_true'] at h
      exact h
  · rw [Bool.not_eq_true'] at h1 h2 ⊢
    exact leS_tr h1 h2
  · cases h : ltS b.1 a.1 with
    | false => rfl
    | true =>
      rw [ltS_asym h]
      rfl
))
theorem srtC_of {α : Type} {a cs : List (Str × α)} (p : a.Perm cs) (s : sortedS (a.map (·.1)) = true) (n : (cs.map (·.1)).Nodup) : a = srtC cs := @NI.run _ (by exact NI.carry : NI.Carry (by
  have p2 := p.trans srtC_perm.symm
  refine cols_eq (sortedS_uniq s srtC_srt (p2.map _)) p2 ?_
  exact (srtC_perm.map (·.1)).nodup_iff.mpr n
))
theorem srtC_names {α : Type} {cs : List (Str × α)} : (srtC cs).map (·.1) = srtS (cs.map (·.1)) := srtS_of (srtC_perm.map _) srtC_srt
structure TOk (D : TabD) : Prop where
  cs : CsOk D.cs D.n
  srt : sortedS (D.cs.map (·.1)) = true
  n : D.n ≤ 200
theorem CsOk.perm {cs cs' : Cols} {n : Nat} (h : CsOk cs n) (p : cs'.Perm cs) : CsOk cs' n := ⟨fun c hc => h.nm c (p.mem_iff.mp hc), (p.map (·.1)).nodup_iff.mpr h.nd, by rw [p.length_eq]; exact h.few, fun c hc => h.len c (p.mem_iff.mp hc)⟩
theorem TOk.of {cs : Cols} {n : Nat} (h : CsOk cs n) (hn : n ≤ 200) : TOk ⟨srtC cs, n⟩ := ⟨h.perm srtC_perm, srtC_srt, hn⟩
theorem TOk.self {D : TabD} (h : TOk D) : srtC D.cs = D.cs := (srtC_of (List.Perm.refl _) h.srt h.cs.nd).symm
theorem keys_nd {α : Type} {cs : List (Str × α)} (h : (cs.map (·.1)).Nodup) : (cs.map fun c => (.inr c.1 : Key)).Nodup := @NI.run _ (by exact NI.carry : NI.Carry (by
  rw [List.nodup_iff_pairwise_ne, List.pairwise_map] at h ⊢
  exact h.imp fun h z => h (Sum.inr.inj z)
))
theorem tab_made {K : PySem.W.Frag} {x z : V} {H : Hp} {Q : VK} {E : XK} (h : ∃ d cs n, x = .ref d ∧ RTo z cs n ∧ DA (ColR K) H d (keyed cs) ∧ CsOk cs n ∧ n ≤ 200 ∧ ∀ v H', Same H H' → TabR K H' v ⟨srtC cs, n⟩ → TOk ⟨srtC cs, n⟩ → Q v H') : sp_Table K [x, z] H Q E := @NI.run _ (by exact NI.carry : NI.Carry (by
  obtain ⟨d, cs, n, hx, hz, hd, hc, hn, k⟩ := h
  refine ⟨x, z, rfl, d, cs, n, hx, hz, hd, hc, hn, fun v H' cs' e p s t => ?_⟩
  have := srtC_of p s hc.nd
  subst this
  exact k v H' e t (TOk.of hc hn)
))
def sp_Table_names (K : PySem.W.Frag) : Sp := sp1 fun x H Q _ => ∃ D, TabR K H x D ∧ TOk D ∧ ∀ v H', Same H H' → RT K RS H' v (D.cs.map (·.1)) → Q v H'
abbrev n_Table_names : List Str := ["self"]
theorem sc_Table_names : FnScope n_Table_names ["self"] (defScope s_Table_names) := ⟨rfl, rfl, rfl, by decide +kernel, rfl, by decide +kernel, by decide +kernel⟩
theorem cal_Table_names (T : Tx P K mg) : FnR P w K mg base (CXW P w) 1 (rA "property" "Table" "names" K) (sp_Table_names K) := @NI.run _ (by exact NI.carry : NI.Carry (by
  refine fnR_of (k := 0) T.D_Table_names sc_Table_names (fun _ _ _ _ _ _ us hl => match us, hl with | [_], _ => rfl) (fun vs H Q E h => ?_) (fun cdv A outer s H vs Q E hr h => ?_)
  · obtain ⟨v0, rfl, _⟩ := h
    rfl
  obtain ⟨v0, rfl, h⟩ := h
  refine ⟨_, pss_one (ps_ret (pe_callTy (kTuple K) (by rfl) T.N_tuple (by decide +kernel) (pa_cons (pe_callTy (call_list_dK rfl) (by rfl) T.N_list (by decide +kernel) (pa_cons (kSl K (pv 0)) pa_nil)) pa_nil))), ?_⟩
  obtain ⟨D, ⟨d, vi, ho, ⟨kvs, hk, hkv⟩, hi⟩, ok, k⟩ := h
  have h12 := ok.cs.few
  repeat walk_at "ru"
  refine rd_slN T.C_Table ho (i := 0) rfl rfl ?_
  repeat walk_at "ru"
  have hkeys := (kvs_keys (l := keyed D.cs) hkv).trans keyed_keys
  have hks : (kvs.map fun kv => kV kv.1) = (D.cs.map (·.1)).map V.str := by
    rw [show (kvs.map fun kv => kV kv.1) = (kvs.map (·.1)).map kV by rw [List.map_map]; rfl, hkeys, List.map_map]
    rfl
  refine ⟨d, kvs, rfl, hk, fun q hq => ?_⟩
  have hy : RL K RS (upd H q (.lst (kvs.map fun kv => kV kv.1))) (.ref q) (D.cs.map (·.1)) := by
    rw [hks]
    exact RL.mk hq RAll.strs (by rw [List.length_map, List.length_map]; have := (by decide : 12 ≤ sizeLine); omega)
  have e1 : Same H (upd H q (.lst (kvs.map fun kv => kV kv.1))) := Same.new hq
  generalize upd H q _ = H1 at hy e1 ⊢
  repeat walk_at "ru"
  refine rd_tupleL hy fun w9 H9 e9 hw9 => k _ _ (e1.trans e9) hw9
))
def sp_Table_total (K : PySem.W.Frag) : Sp := sp1 fun x H Q _ => ∃ D, TabR K H x D ∧ Q (.int (D.n : Int)) H
abbrev n_Table_total : List Str := ["self"]
theorem sc_Table_total : FnScope n_Table_total ["self"] (defScope s_Table_total) := ⟨rfl, rfl, rfl, by decide +kernel, rfl, by decide +kernel, by decide +kernel⟩
theorem cal_Table_total (T : Tx P K mg) : FnR P w K mg base (CXW P w) 1 (rA "property" "Table" "total" K) (sp_Table_total K) := @NI.run _ (by exact NI.carry : NI.Carry (by
  refine fnR_of (k := 0) T.D_Table_total sc_Table_total (fun _ _ _ _ _ _ us hl => match us, hl with | [_], _ => rfl) (fun vs H Q E h => ?_) (fun cdv A outer s H vs Q E hr h => ?_)
  · obtain ⟨v0, rfl, _⟩ := h
    rfl
  obtain ⟨v0, rfl, h⟩ := h
  refine ⟨_, pss_one (ps_ret (kSl K (pv 0))), ?_⟩
  obtain ⟨D, ⟨d, vi, ho, hd, hi⟩, k⟩ := h
  repeat walk_at "ru"
  refine rd_slN T.C_Table ho (i := 2) rfl rfl ?_
  exact k
))
def sp_Table___len__ (K : PySem.W.Frag) : Sp := sp1 fun x H Q _ => ∃ D, TabR K H x D ∧ Q (.int (D.n : Int)) H
abbrev n_Table___len__ : List Str := ["self"]
theorem sc_Table___len__ : FnScope n_Table___len__ ["self"] (defScope s_Table___len__) := ⟨rfl, rfl, rfl, by decide +kernel, rfl, by decide +kernel, by decide +kernel⟩
theorem cal_Table___len__ (T : Tx P K mg) : FnR P w K mg base (CXW P w) 1 (mA "Table" "__len__" K) (sp_Table___len__ K) := @NI.run _ (by exact NI.carry : NI.Carry (by
  refine fnR_of (k := 0) T.D_Table___len__ sc_Table___len__ (fun _ _ _ _ _ _ us hl => match us, hl with | [_], _ => rfl) (fun vs H Q E h => ?_) (fun cdv A outer s H vs Q E hr h => ?_)
  · obtain ⟨v0, rfl, _⟩ := h
    rfl
  obtain ⟨v0, rfl, h⟩ := h
  refine ⟨_, pss_one (ps_ret (pe_callB (kLen K) (by rfl) T.N_len (by decide +kernel) (pa_cons (kSl K (pv 0)) pa_nil))), ?_⟩
  obtain ⟨D, ⟨d, vi, ho, hd, hi⟩, k⟩ := h
  repeat walk_at "ru"
  refine rd_slN T.C_Table ho (i := 1) rfl rfl ?_
  repeat walk_at "ru"
  refine rd_lenL hi ?_
  rw [rgI_len]
  exact k
))
def sp_Table_columns (K : PySem.W.Frag) : Sp := sp1 fun x H Q _ => ∃ D, TabR K H x D ∧ ∀ d H', Same H H' → DA (ColR K) H' d (keyed D.cs) → Q (.ref d) H'
abbrev n_Table_columns : List Str := ["self"]
theorem sc_Table_columns : FnScope n_Table_columns ["self"] (defScope s_Table_columns) := ⟨rfl, rfl, rfl, by decide +kernel, rfl, by decide +kernel, by decide +kernel⟩
theorem cal_Table_columns (T : Tx P K mg) : FnR P w K mg base (CXW P w) 1 (rA "property" "Table" "columns" K) (sp_Table_columns K) := @NI.run _ (by exact NI.carry : NI.Carry (by
  refine fnR_of (k := 0) T.D_Table_columns sc_Table_columns (fun _ _ _ _ _ _ us hl => match us, hl with | [_], _ => rfl) (fun vs H Q E h => ?_) (fun cdv A outer s H vs Q E hr h => ?_)
  · obtain ⟨v0, rfl, _⟩ := h
    rfl
  obtain ⟨v0, rfl, h⟩ := h
  refine ⟨_, pss_one (ps_ret (pe_callTy call_dictC (by rfl) T.N_dict (by decide +kernel) (pa_cons (kSl K (pv 0)) pa_nil))), ?_⟩
  obtain ⟨D, ⟨d, vi, ho, hd, hi⟩, k⟩ := h
  repeat walk_at "ru"
  refine rd_slN T.C_Table ho (i := 0) rfl rfl ?_
  obtain ⟨kvs, hk, hkv⟩ := hd
  refine ⟨d, kvs, rfl, .inl hk, fun p hp => k _ _ (Same.new hp) ⟨kvs, upd_same, Paired.mono (fun _ _ q => ⟨q.1, Up.up (R := ColR K) (Same.new hp) q.2⟩) hkv⟩⟩
))
def sp_Table___getitem__ (K : PySem.W.Frag) : Sp := sp2 fun x y H Q _ => ∃ D c, TabR K H x D ∧ y = .str c.1 ∧ c ∈ D.cs ∧ TOk D ∧ ∀ v H', Same H H' → ColR K H' v c.2 → Q v H'
abbrev n_Table___getitem__ : List Str := ["self", "name"]
theorem sc_Table___getitem__ : FnScope n_Table___getitem__ ["self", "name"] (defScope s_Table___getitem__) := ⟨rfl, rfl, rfl, by decide +kernel, rfl, by decide +kernel, by decide +kernel⟩
theorem cal_Table___getitem__ (T : Tx P K mg) : FnR P w K mg base (CXW P w) 3 (mA "Table" "__getitem__" K) (sp_Table___getitem__ K) := @NI.run _ (by exact NI.carry : NI.Carry (by
  refine fnR_of (k := 2) T.D_Table___getitem__ sc_Table___getitem__ (fun _ _ _ _ _ _ us hl => match us, hl with | [_, _], _ => rfl) (fun vs H Q E h => ?_) (fun cdv A outer s H vs Q E hr h => ?_)
  · obtain ⟨v0, v1, rfl, _⟩ := h
    rfl
  obtain ⟨v0, v1, rfl, h⟩ := h
  refine ⟨_, pss_cons (ps_if (PW.pt (pw_or (pt_not (pt_val (pc (cal_is_name T) hr (pa_cons (pv 1) pa_nil)))) (pw_or1 (pt_cmp (pc_dnotin (hu_of hr) (pv 1) (kSl K (pv 0)))))))
        (pss_one ps_never)
        (pss_nil))
      (pss_one (ps_ret (pe_dget (hu_of hr) (kSl K (pv 0)) (pv 1) (fun _ _ => rfl)))), ?_⟩
  obtain ⟨D, c, ⟨d, vi, ho, hd, hi⟩, rfl, hcm, ok, k⟩ := h
  have hnb := ok.cs.nm c hcm
  repeat walk_at "ru"
  refine ⟨_, rfl, some c.1, ⟨rfl, by have := nameB_len hnb; omega⟩, fun H5 e5 => ?_⟩
  rw [show oR nameB (some c.1) = true from hnb]
  repeat walk_at "ru"
  refine rd_slN T.C_Table (ObN.up e5 ho) (i := 0) rfl rfl ?_
  refine DA.dget (R := ColR K) (k := .inr c.1) (.inl (hd.up e5)) fun o h1 h2 => ?_
  obtain ⟨v, rfl, hv⟩ := h2 _ (look_keyed ok.cs.nd hcm)
  refine ⟨_, rfl, ?_⟩
  rw [show (!(some v).isSome) = false from rfl]
  repeat walk_at "ru"
  refine rd_dg ?_
  repeat walk_at "ru"
  refine rd_slN T.C_Table (ObN.up e5 ho) (i := 0) rfl rfl ?_
  repeat walk_at "ru"
  refine col_get (R := ColR K) (.inl (hd.up e5)) ok.cs.nd hcm fun v hv => ?_
  exact k _ _ e5 hv
))
theorem look_none {β : Type} {cs : List (Str × β)} {z : Str} (h : z ∉ cs.map (·.1)) : lookA (cs.map fun c => ((.inr c.1 : Key), c.2)) (.inr z) = none := @NI.run _ (by exact NI.carry : NI.Carry (by
  unfold lookA
  rw [List.find?_map]
  rw [Option.map_map, Option.map_eq_none_iff, List.find?_eq_none]
  intro c hc
  simp only [Function.comp, decide_eq_true_eq]
  exact fun e => h (List.mem_map.mpr ⟨c, hc, Sum.inr.inj e⟩)
))
theorem name_in {β : Type} {R : Rl β} {H : Hp} {d : Addr} {cs : List (Str × β)} {z : Str} {C : Bool → Prop} (hd : DA R H d (cs.map fun c => ((.inr c.1 : Key), c.2)) ∨ DL R H d (cs.map fun c => ((.inr c.1 : Key), c.2))) (hn : (cs.map (·.1)).Nodup) (q : C (decide (z ∈ cs.map (·.1)))) :
    ∃ a o, V.ref d = .ref a ∧ DGet H a (kV (.inr z)) o ∧ C o.isSome := @NI.run _ (by exact NI.carry : NI.Carry (by
  refine DA.dget (R := R) (k := .inr z) hd fun o h1 h2 => ?_
  rw [h1]
  by_cases h : z ∈ cs.map (·.1)
  · rw [decide_eq_true h] at q
    obtain ⟨c, hc, rfl⟩ := List.mem_map.mp h
    rw [look_keyed hn hc]
    exact q
  · rw [decide_eq_false h] at q
    rw [look_none h]
    exact q
))
def sp_Table___contains__ (K : PySem.W.Frag) : Sp := sp2 fun x y H Q _ => ∃ D o, TabR K H x D ∧ RN K H y o ∧ TOk D ∧ ∀ H', Same H H' → Q (.bl (oR (fun z => decide (z ∈ D.cs.map (·.1))) o)) H'
abbrev n_Table___contains__ : List Str := ["self", "value"]
theorem sc_Table___contains__ : FnScope n_Table___contains__ ["self", "value"] (defScope s_Table___contains__) := ⟨rfl, rfl, rfl, by decide +kernel, rfl, by decide +kernel, by decide +kernel⟩
theorem cal_Table___contains__ (T : Tx P K mg) : FnR P w K mg base (CXW P w) 3 (mA "Table" "__contains__" K) (sp_Table___contains__ K) := @NI.run _ (by exact NI.carry : NI.Carry (by
  refine fnR_of (k := 2) T.D_Table___contains__ sc_Table___contains__ (fun _ _ _ _ _ _ us hl => match us, hl with | [_, _], _ => rfl) (fun vs H Q E h => ?_) (fun cdv A outer s H vs Q E hr h => ?_)
  · obtain ⟨v0, v1, rfl, _⟩ := h
    rfl
  obtain ⟨v0, v1, rfl, h⟩ := h
  refine ⟨_, pss_one (ps_ret (pe_and (pc (cal_is_name T) hr (pa_cons (pv 1) pa_nil)) (pe_one (pe_cmp (pc_din (hu_of hr) (pv 1) (kSl K (pv 0))) rfl)))), ?_⟩
  obtain ⟨D, o, ⟨d, vi, ho, hd, hi⟩, hy, ok, k⟩ := h
  repeat walk_at "ru"
  refine ⟨_, rfl, o, hy, fun H5 e5 => ?_⟩
  cases o with
  | none =>
    rw [show oR nameB none = false from rfl]
    repeat walk_at "ru"
    exact k _ e5
  | some z =>
    obtain ⟨rfl, _⟩ := hy
    rw [show oR nameB (some z) = nameB z from rfl]
    cases hz : nameB z with
    | false =>
      repeat walk_at "ru"
      have : decide (z ∈ D.cs.map (·.1)) = false := decide_eq_false fun h => by
        obtain ⟨c, hc, rfl⟩ := List.mem_map.mp h
        rw [ok.cs.nm c hc] at hz
        cases hz
      have k := k _ e5
      rw [show oR (fun z => decide (z ∈ D.cs.map (·.1))) (some z) = false from this] at k
      exact k
    | true =>
      repeat walk_at "ru"
      refine rd_tIn ?_
      repeat walk_at "ru"
      refine rd_slN T.C_Table (ObN.up e5 ho) (i := 0) rfl rfl ?_
      exact name_in (R := ColR K) (C := fun b => Q (.bl b) H5) (.inl (hd.up e5)) ok.cs.nd (k _ e5)
))
def WorR (K : PySem.W.Frag) : Rl ColD := fun H v D => match D with
  | .fac _ cs => RT K RIo H v cs
  | .num qs => RT K (RQo K) H v qs
def sp_worths_of (K : PySem.W.Frag) : Sp := sp1 fun x H Q _ => ∃ D, ColR K H x D ∧ ∀ v, WorR K H v D → Q v H
abbrev n_worths_of : List Str := ["column"]
theorem sc_worths_of : FnScope n_worths_of ["column"] (defScope s_worths_of) := ⟨rfl, rfl, rfl, by decide +kernel, rfl, by decide +kernel, by decide +kernel⟩
theorem cal_worths_of (T : Tx P K mg) : Cal P w K mg base 1 "worths_of" (sp_worths_of K) := @NI.run _ (by exact NI.carry : NI.Carry (by
  refine cal_of (k := 0) T.G_worths_of T.D_worths_of sc_worths_of (fun _ _ _ _ _ _ us hl => match us, hl with | [_], _ => rfl) (fun vs H Q E h => ?_) (fun cdv A outer s H vs Q E hr h => ?_)
  · obtain ⟨v0, rfl, _⟩ := h
    rfl
  obtain ⟨v0, rfl, h⟩ := h
  refine ⟨_, pss_one (ps_ret (pe_ifExp (pt_val (pe_callB (kIsi K) (by rfl) T.N_isinstance (by decide +kernel) (pa_cons (pv 0) (pa_cons (pe_gC T.G_Factor) pa_nil)))) (kSl K (pv 0)) (kSl K (pv 0)))), ?_⟩
  obtain ⟨D, hx, k⟩ := h
  cases D with
  | fac ls cs =>
    repeat walk_at "ru"
    refine rd_isiY (HasTy.own (slN2 T.C_Factor) (FacR.own hx)) ?_ (.own _) T.K_Factor_Factor
    repeat walk_at "ru"
    obtain ⟨vc, vl, ho, hl, hc⟩ := hx
    refine rd_slN (slN2 T.C_Factor) ho (i := 0) rfl rfl ?_
    exact k _ hc
  | num qs =>
    repeat walk_at "ru"
    refine rd_isiN (HasTy.own T.C_Numbers (NumR.own hx)) ?_ (.own _) T.K_Numbers_Factor
    repeat walk_at "ru"
    obtain ⟨vr, ho, hr1⟩ := hx
    refine rd_slN T.C_Numbers ho (i := 0) rfl rfl ?_
    exact k _ hr1
))
theorem prop_Factor_levels (T : Tx P K mg) : Prp P w K mg base 1 (gA "Factor" K) "levels" (sp_Factor_levels K) := ⟨_, T.P_Factor_levels, T.C_Factor.cl, cal_Factor_levels T⟩
theorem prop_Factor_codes (T : Tx P K mg) : Prp P w K mg base 1 (gA "Factor" K) "codes" (sp_Factor_codes K) := ⟨_, T.P_Factor_codes, T.C_Factor.cl, cal_Factor_codes T⟩
theorem prop_Factor_kind (T : Tx P K mg) : Prp P w K mg base 1 (gA "Factor" K) "kind" (sp_Factor_kind K) := ⟨_, T.P_Factor_kind, T.C_Factor.cl, cal_Factor_kind T⟩
theorem prop_Numbers_ratios (T : Tx P K mg) : Prp P w K mg base 1 (gA "Numbers" K) "ratios" (sp_Numbers_ratios K) := ⟨_, T.P_Numbers_ratios, T.C_Numbers.cl, cal_Numbers_ratios T⟩
theorem prop_Numbers_kind (T : Tx P K mg) : Prp P w K mg base 1 (gA "Numbers" K) "kind" (sp_Numbers_kind K) := ⟨_, T.P_Numbers_kind, T.C_Numbers.cl, cal_Numbers_kind T⟩
theorem prop_Table_columns (T : Tx P K mg) : Prp P w K mg base 1 (gA "Table" K) "columns" (sp_Table_columns K) := ⟨_, T.P_Table_columns, T.C_Table.cl, cal_Table_columns T⟩
theorem prop_Table_names (T : Tx P K mg) : Prp P w K mg base 1 (gA "Table" K) "names" (sp_Table_names K) := ⟨_, T.P_Table_names, T.C_Table.cl, cal_Table_names T⟩
theorem prop_Table_total (T : Tx P K mg) : Prp P w K mg base 1 (gA "Table" K) "total" (sp_Table_total K) := ⟨_, T.P_Table_total, T.C_Table.cl, cal_Table_total T⟩
def ColD.kind : ColD → Str
  | .fac _ _ => "factor"
  | .num _ => "number"
theorem kindU_at {K : PySem.W.Frag} {H : Hp} {x : V} {D : ColD} {Q : VK} (h : ColR K H x D) (q : Q (.str D.kind) H) :
    (∃ a dx vs, x = .ref a ∧ SlX.Slt H a (gA "Factor" K) dx vs ∧ sp_Factor_kind K [.ref a] H Q E0) ∨ (∃ a dx vs, x = .ref a ∧ SlX.Slt H a (gA "Numbers" K) dx vs ∧ sp_Numbers_kind K [.ref a] H Q E0) := @NI.run _ (by exact NI.carry : NI.Carry (by
  cases D with
  | fac ls cs =>
    obtain ⟨vc, vl, ⟨o, dx, rfl, s⟩, _⟩ := h
    exact .inl ⟨o, dx, _, rfl, s, _, rfl, q⟩
  | num qs =>
    obtain ⟨vr, ⟨o, dx, rfl, s⟩, _⟩ := h
    exact .inr ⟨o, dx, _, rfl, s, _, rfl, q⟩
))
theorem keys_names {α : Type} {cs : List (Str × α)} {kvs : List (Key × V)} {R : Rl α} [Up R] {H : Hp} (h : KVs R H kvs (cs.map fun c => (.inr c.1, c.2))) : kvs.map (·.1) = cs.map fun c => Sum.inr c.1 := @NI.run _ (by exact NI.carry : NI.Carry (by
  rw [kvs_keys (l := cs.map fun c => ((.inr c.1 : Key), c.2)) h, List.map_map]
  rfl
))
def sp_Table_kinds (K : PySem.W.Frag) : Sp := sp1 fun x H Q _ => ∃ D, TabR K H x D ∧ TOk D ∧ ∀ p H', Same H H' → DA RS H' p (D.cs.map fun c => (.inr c.1, c.2.kind)) → Q (.ref p) H'
abbrev n_Table_kinds : List Str := ["self", "name"]
theorem sc_Table_kinds : FnScope n_Table_kinds ["self"] (defScope s_Table_kinds) := ⟨rfl, rfl, rfl, by decide +kernel, rfl, by decide +kernel, by decide +kernel⟩
theorem cal_Table_kinds (T : Tx P K mg) : FnR P w K mg base (CXW P w) 3 (rA "property" "Table" "kinds" K) (sp_Table_kinds K) := @NI.run _ (by exact NI.carry : NI.Carry (by
  refine fnR_of (k := 2) T.D_Table_kinds sc_Table_kinds (fun _ _ _ _ _ _ us hl => match us, hl with | [_], _ => rfl) (fun vs H Q E h => ?_) (fun cdv A outer s H vs Q E hr h => ?_)
  · obtain ⟨v0, rfl, _⟩ := h
    rfl
  obtain ⟨v0, rfl, h⟩ := h
  refine ⟨_, pss_one (ps_ret (pe_lock (pe_dc (own := [("name", 1)]) (g := gName 1) (tt := tYes) (by rfl) sc_Table_kinds.nd (pi_keys (kSl K (pv 0))) (blkOk_by (own := [("name", 1)]) (N := n_Table_kinds) (by rfl)) (fun _ _ _ _ _ => pg_name (i := 1) sc_Table_kinds.nd rfl (by first | exact Or.inl rfl | exact Or.inr rfl)) (fun _ _ _ _ _ => pts_nil) (fun _ _ _ _ _ => pv 1) (fun _ _ _ _ _ => ppU (prop_Factor_kind T) (prop_Numbers_kind T) hr (pe_dget (hu_of hr) (kSl K (pv 0)) (pv 1) (fun _ _ => rfl)))))), ?_⟩
  obtain ⟨D, ⟨d, vi, ho, hd, hi⟩, ok, k⟩ := h
  obtain ⟨kvs, hk, hkv, hL⟩ := hd.lock
  have h12 := ok.cs.few
  repeat walk_at "ru"
  refine lockD hk fun od => ?_
  have hoL : ObN (gA "Table" K) (upd H d (.frz od (.dK kvs))) v0 _ := obn_lock hk ho
  refine rd_dcKy ?_
  repeat walk_at "ru"
  refine rd_slN T.C_Table hoL (i := 0) rfl rfl ?_
  refine ⟨d, od, rfl, .inl ⟨kvs, upd_same, dcK_map (S := RS) (R := RNg (fun c : Str × ColD => c.1)) (wk_keysG upd_same (keys_names hkv)) (by have := (by decide : 12 ≤ sizeLine); omega) (fun c => .inr c.1) (fun c => c.2.kind) (fun d2 H4 e4 hd2 hD => ?_) (fun c G x hcm e4 hx => ⟨_, gok_name, by rfl, fun Kt hk2 => ?_⟩)⟩⟩
  · rw [puts_nodup (keys_nd ok.cs.nd)] at hD
    refine ⟨e4 _ _ upd_same, k d2 _ (same_lockK hk e4) (da_unlockK (e4 _ _ upd_same) (fun _ _ h => h) hD.da)⟩
  · obtain rfl : x = V.str c.1 := hx
    repeat walk_at "ru"
    refine rd_propU ?_
    refine rd_dg ?_
    repeat walk_at "ru"
    refine rd_slN T.C_Table (ObN.up e4 hoL) (i := 0) rfl rfl ?_
    repeat walk_at "ru"
    refine col_get (R := ColR K) (.inr ((hL od).up e4)) ok.cs.nd hcm fun v hv => ?_
    exact kindU_at hv (hk2 _ _ (Same.refl _) rfl)
))
inductive Wth
  | int (o : Option Int)
  | rat (o : Option Rat)
def WthR (K : PySem.W.Frag) : Rl Wth := fun H v D => match D with
  | .int o => RIo H v o
  | .rat o => RQo K H v o
instance {K : PySem.W.Frag} : Up (WthR K) := ⟨fun {H H' v D} e h => by
  cases D with
  | int o => exact Up.up (R := RIo) e h
  | rat o => exact Up.up (R := RQo K) e h⟩
def ColD.at (i : Nat) : ColD → Wth
  | .fac _ cs => .int (cs[i]?.getD none)
  | .num qs => .rat (qs[i]?.getD none)
theorem wor_at {K : PySem.W.Frag} {H : Hp} {v : V} {D : ColD} {i : Nat} {Q : VK} (h : WorR K H v D) (hi : i < D.long) (q : ∀ w, WthR K H w (D.at i) → Q w H) : rIxT K v (.int (i : Int)) H Q := @NI.run _ (by exact NI.carry : NI.Carry (by
  cases D with
  | fac ls cs =>
    have hi : i < cs.length := hi
    refine rd_ixT (n := i) (a := cs[i]) h (List.getElem?_eq_getElem hi) (fun w hw => q w ?_)
    show RIo H w (cs[i]?.getD none)
    rw [List.getElem?_eq_getElem hi]
    exact hw
  | num qs =>
    have hi : i < qs.length := hi
    refine rd_ixT (n := i) (a := qs[i]) h (List.getElem?_eq_getElem hi) (fun w hw => q w ?_)
    show RQo K H w (qs[i]?.getD none)
    rw [List.getElem?_eq_getElem hi]
    exact hw
))
theorem wth_unlock {K : PySem.W.Frag} {H : Hp} {d : Addr} {od : Obj} {kvs : List (Key × V)} {u : HO} {v : V} {D : Wth} (e : H d = some (.frz od (.dK kvs))) (h : WthR K H v D) : WthR K (upd H d u) v D := @NI.run _ (by exact NI.carry : NI.Carry (by
  cases D with
  | int o => cases o with
    | none => exact h
    | some i => exact h
  | rat o => cases o with
    | none => exact h
    | some q => exact ⟨rq_unlock e h.1, h.2⟩
))
theorem wth_ud {K : PySem.W.Frag} {H : Hp} {d : Addr} {kvs : List (Key × V)} {v : V} {D : Wth} (e : H d = some (.dK kvs)) (h : WthR K H v D) : WthR K (hd d H) v D := @NI.run _ (by exact NI.carry : NI.Carry (by
  cases D with
  | int o => cases o with
    | none => exact h
    | some i => exact h
  | rat o => cases o with
    | none => exact h
    | some q => exact ⟨Ud.ud e h.1, h.2⟩
))
instance {K : PySem.W.Frag} : Ud (WthR K) := ⟨fun e h => wth_ud e h⟩
def sp_Table_worths (K : PySem.W.Frag) : Sp := sp2 fun x y H Q _ => ∃ D, ∃ i : Nat, TabR K H x D ∧ TOk D ∧ y = .int (i : Int) ∧ i < D.n ∧ ∀ p H', Same H H' → DA (WthR K) H' p (D.cs.map fun c => (.inr c.1, c.2.at i)) → Q (.ref p) H'
abbrev n_Table_worths : List Str := ["self", "index", "name"]
theorem sc_Table_worths : FnScope n_Table_worths ["self", "index"] (defScope s_Table_worths) := ⟨rfl, rfl, rfl, by decide +kernel, rfl, by decide +kernel, by decide +kernel⟩
theorem cal_Table_worths (T : Tx P K mg) : FnR P w K mg base (CXW P w) 3 (mA "Table" "worths" K) (sp_Table_worths K) := @NI.run _ (by exact NI.carry : NI.Carry (by
  refine fnR_of (k := 2) T.D_Table_worths sc_Table_worths (fun _ _ _ _ _ _ us hl => match us, hl with | [_, _], _ => rfl) (fun vs H Q E h => ?_) (fun cdv A outer s H vs Q E hr h => ?_)
  · obtain ⟨v0, v1, rfl, _⟩ := h
    rfl
  obtain ⟨v0, v1, rfl, h⟩ := h
  refine ⟨_, pss_cons (ps_if (pt_not (pt_val (pc (cal_is_within T) hr (pa_cons (pv 1) (pa_cons pe_int (pa_cons (pe_op op_sub (kSl K (pv 0)) pe_int) pa_nil))))))
        (pss_one ps_never)
        (pss_nil))
      (pss_one (ps_ret (pe_lock (pe_dc (own := [("name", 2)]) (g := gName 2) (tt := tYes) (by rfl) sc_Table_worths.nd (pi_keys (kSl K (pv 0))) (blkOk_by (own := [("name", 2)]) (N := n_Table_worths) (by rfl)) (fun _ _ _ _ _ => pg_name (i := 2) sc_Table_worths.nd rfl (by first | exact Or.inl rfl | exact Or.inr rfl)) (fun _ _ _ _ _ => pts_nil) (fun _ _ _ _ _ => pv 2) (fun _ _ _ _ _ => pe_ix (kIxT K) (pc (cal_worths_of T) hr (pa_cons (pe_dget (hu_of hr) (kSl K (pv 0)) (pv 2) (fun _ _ => rfl)) pa_nil)) (pv 1) (fun _ _ => rfl)))))), ?_⟩
  obtain ⟨D, i, ⟨d, vi, ho, hd, hi⟩, ok, rfl, hin, k⟩ := h
  obtain ⟨kvs, hk, hkv, hL⟩ := hd.lock
  have h12 := ok.cs.few
  have h200 := ok.n
  repeat walk_at "ru"
  refine rd_slN T.C_Table ho (i := 2) rfl rfl ?_
  repeat walk_at "ru"
  refine ⟨_, _, _, rfl, (i : Int), 0, _, rfl, rfl, rfl, by omega, ?_⟩
  rw [decide_eq_true ⟨by omega, by omega⟩]
  repeat walk_at "ru"
  refine lockD hk fun od => ?_
  have hoL : ObN (gA "Table" K) (upd H d (.frz od (.dK kvs))) v0 _ := obn_lock hk ho
  refine rd_dcKy ?_
  repeat walk_at "ru"
  refine rd_slN T.C_Table hoL (i := 0) rfl rfl ?_
  refine ⟨d, od, rfl, .inl ⟨kvs, upd_same, dcK_map (S := WthR K) (R := RNg (fun c : Str × ColD => c.1)) (wk_keysG upd_same (keys_names hkv)) (by have := (by decide : 12 ≤ sizeLine); omega) (fun c => .inr c.1) (fun c => c.2.at i) (fun d2 H4 e4 hd2 hD => ?_) (fun c G x hcm e4 hx => ⟨_, gok_name, by rfl, fun Kt hk2 => ?_⟩)⟩⟩
  · rw [puts_nodup (keys_nd ok.cs.nd)] at hD
    refine ⟨e4 _ _ upd_same, k d2 _ (same_lockK hk e4) (da_unlockK (e4 _ _ upd_same) (fun _ _ h => wth_unlock (e4 _ _ upd_same) h) hD.da)⟩
  · obtain rfl : x = V.str c.1 := hx
    repeat walk_at "ru"
    refine rd_dg ?_
    repeat walk_at "ru"
    refine rd_slN T.C_Table (ObN.up e4 hoL) (i := 0) rfl rfl ?_
    repeat walk_at "ru"
    refine col_get (R := ColR K) (.inr ((hL od).up e4)) ok.cs.nd hcm fun v hv => ?_
    repeat walk_at "ru"
    refine ⟨_, rfl, c.2, hv, fun w hw => ?_⟩
    repeat walk_at "ru"
    exact wor_at hw (by rw [ok.cs.len c hcm]; exact hin) fun z hz => hk2 _ _ (Same.refl _) hz
))
def sp_are_names (K : PySem.W.Frag) : Sp := sp1 fun x H Q _ => ∃ ns, RT K RS H x ns ∧ (∀ z ∈ ns, nameB z = true) ∧ ns.Nodup ∧ ∀ H', Same H H' → Q (.bl true) H'
abbrev n_are_names : List Str := ["value", "name"]
theorem sc_are_names : FnScope n_are_names ["value"] (defScope s_are_names) := ⟨rfl, rfl, rfl, by decide +kernel, rfl, by decide +kernel, by decide +kernel⟩
theorem cal_are_names (T : Tx P K mg) : Cal P w K mg base 3 "are_names" (sp_are_names K) := @NI.run _ (by exact NI.carry : NI.Carry (by
  refine cal_of (k := 2) T.G_are_names T.D_are_names sc_are_names (fun _ _ _ _ _ _ us hl => match us, hl with | [_], _ => rfl) (fun vs H Q E h => ?_) (fun cdv A outer s H vs Q E hr h => ?_)
  · obtain ⟨v0, rfl, _⟩ := h
    rfl
  obtain ⟨v0, rfl, h⟩ := h
  refine ⟨_, pss_cons (ps_if (PW.pt (pw_or (pt_not (pt_val (pe_callB (kIsi K) (by rfl) T.N_isinstance (by decide +kernel) (pa_cons (pv 0) (pa_cons (pe_bltn (v := .ty "tuple") (by rfl) T.N_tuple (by decide +kernel) rfl) pa_nil))))) (pw_or1 (pt_not (pt_val (pe_callB (kAll K) (by rfl) T.N_all (by decide +kernel) (pa_cons (pe_lc (own := [("name", 1)]) (g := gName 1) (tt := tYes) (by rfl) sc_are_names.nd (kPiT K (pv 0)) (blkOk_by (own := [("name", 1)]) (N := n_are_names) (by rfl)) (fun _ _ _ _ _ => pg_name (i := 1) sc_are_names.nd rfl (by first | exact Or.inl rfl | exact Or.inr rfl)) (fun _ _ _ _ _ => pts_nil) (fun _ _ _ _ _ => pe_hid (pc (cal_is_name T) hr (pa_cons (pv 1) pa_nil)))) pa_nil)))))))
        (pss_one (ps_ret pe_bl))
        (pss_nil))
      (pss_one (ps_ret (pe_cmpR op_eq (pe_callB call_lenD (by rfl) T.N_len (by decide +kernel) (pa_cons (pe_dc (own := [("name", 1)]) (g := gName 1) (tt := tYes) (by rfl) sc_are_names.nd (kPiT K (pv 0)) (blkOk_by (own := [("name", 1)]) (N := n_are_names) (by rfl)) (fun _ _ _ _ _ => pg_name (i := 1) sc_are_names.nd rfl (by first | exact Or.inl rfl | exact Or.inr rfl)) (fun _ _ _ _ _ => pts_nil) (fun _ _ _ _ _ => pv 1) (fun _ _ _ _ _ => pe_bl)) pa_nil)) (pe_callB (kLen K) (by rfl) T.N_len (by decide +kernel) (pa_cons (pv 0) pa_nil)) (nomark _)))), ?_⟩
  obtain ⟨ns, hx, hn, hd, k⟩ := h
  repeat walk_at "ru"
  refine rd_isiY (HasTy.rt hx) ?_ (.ty "tuple")
  repeat walk_at "ru"
  refine lcT hx fun J W hz => lcK_name (S := RB) (K := K) W hz (fun _ => true) (fun v H4 e4 hv => ?_) (fun z G x hz2 e4 hx2 Kt hk2 => ?_)
  · repeat walk_at "ru"
    refine rd_all hv ?_
    rw [show (ns.map fun _ => true).all id = true by rw [List.all_map]; exact List.all_eq_true.mpr fun z hz => rfl]
    repeat walk_at "ru"
    refine dcT (Up.up e4 hx) fun J2 W2 hz2 => dcK_map (S := RB) W2 hz2 (fun z => .inr z) (fun _ => true) (fun d H5 e5 hd2 hD => ?_) (fun o G x ho e5 hx => ⟨_, gok_name, by rfl, fun Kt hk2 => ?_⟩)
    · repeat walk_at "ru"
      obtain ⟨kvs, hk1, hk2⟩ := hD.da
      refine ⟨d, kvs, rfl, hk1, ?_⟩
      rw [Paired.length hk2]
      repeat walk_at "ru"
      refine rd_lenT (Up.up (e4.trans e5) hx) ?_
      repeat walk_at "ru"
      have hnn : (ns.map fun z => (.inr z : Key)).Nodup := by
        rw [List.nodup_iff_pairwise_ne, List.pairwise_map]
        exact (List.nodup_iff_pairwise_ne.mp hd).imp fun h z => h (Sum.inr.inj z)
      rw [puts_nodup hnn, List.length_map, decide_eq_true rfl]
      exact k _ (e4.trans e5)
    · obtain rfl : x = V.str o := hx
      repeat walk_at "ru"
      exact hk2 _ _ (Same.refl _) rfl
  · obtain rfl : x = V.str z := hx2
    repeat walk_at "ru"
    refine ⟨_, rfl, some z, ⟨rfl, by have := nameB_len (hn z hz2); omega⟩, fun H' e => hk2 _ _ e ?_⟩
    show V.bl (nameB z) = V.bl true
    rw [hn z hz2]
))
def sp_Table_require_names (K : PySem.W.Frag) : Sp := sp2 fun x y H Q _ => ∃ D ns, TabR K H x D ∧ TOk D ∧ RT K RS H y ns ∧ ns.Nodup ∧ (∀ z ∈ ns, z ∈ D.cs.map (·.1)) ∧ ∀ H', Same H H' → Q .non H'
abbrev n_Table_require_names : List Str := ["self", "names", "name"]
theorem sc_Table_require_names : FnScope n_Table_require_names ["self", "names"] (defScope s_Table_require_names) := ⟨rfl, rfl, rfl, by decide +kernel, rfl, by decide +kernel, by decide +kernel⟩
theorem cal_Table_require_names (T : Tx P K mg) : FnR P w K mg base (CXW P w) 4 (mA "Table" "require_names" K) (sp_Table_require_names K) := @NI.run _ (by exact NI.carry : NI.Carry (by
  refine fnR_of (k := 3) T.D_Table_require_names sc_Table_require_names (fun _ _ _ _ _ _ us hl => match us, hl with | [_, _], _ => rfl) (fun vs H Q E h => ?_) (fun cdv A outer s H vs Q E hr h => ?_)
  · obtain ⟨v0, v1, rfl, _⟩ := h
    rfl
  obtain ⟨v0, v1, rfl, h⟩ := h
  refine ⟨_, pss_cons (ps_if (pt_not (pt_val (pc (cal_are_names T) hr (pa_cons (pv 1) pa_nil))))
        (pss_one ps_never)
        (pss_nil))
      (pss_one (ps_for (passes_of rfl) rfl (kPiT K (pv 1)) (pg_name (i := 2) sc_Table_require_names.nd rfl (by first | exact Or.inl rfl | exact Or.inr rfl))
        (pss_one (ps_if (pt_cmp (pc_dnotin (hu_of hr) (pv 2) (kSl K (pv 0))))
        (pss_one ps_never)
        (pss_nil))))), ?_⟩
  obtain ⟨D, ns, ⟨d, vi, ho, hd, hi⟩, ok, hy, hnd, hin, k⟩ := h
  repeat walk_at "ru"
  refine ⟨_, rfl, ns, hy, fun z hz => ?_, hnd, fun H1 e1 => ?_⟩
  · obtain ⟨c, hc, rfl⟩ := List.mem_map.mp (hin z hz)
    exact ok.cs.nm c hc
  repeat walk_at "ru"
  refine forT (Up.up e1 hy) fun J W hz => ?_
  refine forK W (fun i σ' H' => Same H1 H' ∧ ∃ x2 : Option V, σ' = [some v0, some v1, x2]) ⟨Same.refl _, none, rfl⟩ (fun i σ' H' h => h.1) ?_ ?_
  · rintro i σ' H2 z x H3 hz3 ⟨e2, x2, rfl⟩ e3 e13 hx
    obtain rfl : x = V.str z := hx
    repeat walk_at "ru"
    refine rd_slN T.C_Table (ObN.up (e1.trans e13) ho) (i := 0) rfl rfl ?_
    obtain ⟨a, o, ea, g, hc⟩ := name_in (R := ColR K) (z := z) (C := fun b => b = decide (z ∈ D.cs.map (·.1))) (.inl (hd.up (e1.trans e13))) ok.cs.nd rfl
    refine ⟨a, o, ea, g, ?_⟩
    rw [hc, decide_eq_true (hin z (List.mem_of_getElem? hz3))]
    repeat walk_at "ru"
    exact ⟨e13, _, rfl⟩
  · rintro σ' H2 ⟨e2, x2, rfl⟩
    repeat walk_at "ru"
    exact k _ (e1.trans e2)
))
theorem rt_nm {α : Type} {K : PySem.W.Frag} {H : Hp} {v : V} {cs : List (Str × α)} (h : RT K RS H v (cs.map (·.1))) : RT K (RNg fun c : Str × α => c.1) H v cs := @NI.run _ (by exact NI.carry : NI.Carry (by
  obtain ⟨p, vs, e, a, b, c⟩ := h
  refine ⟨p, vs, e, a, ?_, c⟩
  clear a c e
  induction cs generalizing vs with
  | nil => cases b; exact .nil
  | cons z ns ih =>
    cases b with
    | cons h t => exact .cons h (ih _ t)
))
theorem CsOk.sub {cs ks : Cols} {n : Nat} (h : CsOk cs n) (hs : ∀ c ∈ ks, c ∈ cs) (hn : (ks.map (·.1)).Nodup) : CsOk ks n := ⟨fun c hc => h.nm c (hs c hc), hn, by
  have h1 : (ks.map (·.1)).length ≤ (cs.map (·.1)).length := hn.length_le_of_subset fun z hz => by
    obtain ⟨c, hc, rfl⟩ := List.mem_map.mp hz
    exact List.mem_map.mpr ⟨c, hs c hc, rfl⟩
  rw [List.length_map, List.length_map] at h1
  have := h.few
  omega, fun c hc => h.len c (hs c hc)⟩
def sp_Table_shown (K : PySem.W.Frag) : Sp := sp2 fun x y H Q _ => ∃ D, ∃ ks : Cols, TabR K H x D ∧ TOk D ∧ RT K RS H y (ks.map (·.1)) ∧ (∀ c ∈ ks, c ∈ D.cs) ∧ (ks.map (·.1)).Nodup ∧ ∀ v H', Same H H' → TabR K H' v ⟨srtC ks, D.n⟩ → TOk ⟨srtC ks, D.n⟩ → Q v H'
abbrev n_Table_shown : List Str := ["self", "names", "name"]
theorem sc_Table_shown : FnScope n_Table_shown ["self", "names"] (defScope s_Table_shown) := ⟨rfl, rfl, rfl, by decide +kernel, rfl, by decide +kernel, by decide +kernel⟩
theorem cal_Table_shown (T : Tx P K mg) : FnR P w K mg base (CXW P w) 6 (mA "Table" "shown" K) (sp_Table_shown K) := @NI.run _ (by exact NI.carry : NI.Carry (by
  refine fnR_of (k := 5) T.D_Table_shown sc_Table_shown (fun _ _ _ _ _ _ us hl => match us, hl with | [_, _], _ => rfl) (fun vs H Q E h => ?_) (fun cdv A outer s H vs Q E hr h => ?_)
  · obtain ⟨v0, v1, rfl, _⟩ := h
    rfl
  obtain ⟨v0, v1, rfl, h⟩ := h
  refine ⟨_, pss_cons (ps_expr (pe_methN (cal_Table_require_names T) T.O_Table_require_names T.C_Table.cl hr takesE (pv 0) (pa_cons (pv 1) pa_nil)))
      (pss_one (ps_ret (pmKW (ctorN_Table T) hr takesE (pa_cons (pe_dc (own := [("name", 2)]) (g := gName 2) (tt := tYes) (by rfl) sc_Table_shown.nd (kPiT K (pv 1)) (blkOk_by (own := [("name", 2)]) (N := n_Table_shown) (by rfl)) (fun _ _ _ _ _ => pg_name (i := 2) sc_Table_shown.nd rfl (by first | exact Or.inl rfl | exact Or.inr rfl)) (fun _ _ _ _ _ => pts_nil) (fun _ _ _ _ _ => pv 2) (fun _ _ _ _ _ => pe_dget (hu_of hr) (kSl K (pv 0)) (pv 2) (fun _ _ => rfl))) pa_nil) (pk_cons (kSl K (pv 0)) pk_nil)))), ?_⟩
  obtain ⟨D, ks, hx, ok, hy, hs, hn, k⟩ := h
  repeat walk_at "ru"
  refine ⟨hx.own, ?_⟩
  repeat walk_at "ru"
  refine ⟨_, _, rfl, D, _, hx, ok, hy, hn, fun z hz => ?_, fun H1 e1 => ?_⟩
  · obtain ⟨c, hc, rfl⟩ := List.mem_map.mp hz
    exact List.mem_map.mpr ⟨c, hs c hc, rfl⟩
  obtain ⟨d, vi, ho, hd, hi⟩ := hx
  repeat walk_at "ru"
  refine dcT (rt_nm (Up.up e1 hy)) fun J W hz => dcK_map (S := ColR K) W hz (fun c => .inr c.1) (fun c => c.2) (fun d2 H4 e4 hd2 hD => ?_) (fun c G x hcm e4 hx => ⟨_, gok_name, by rfl, fun Kt hk2 => ?_⟩)
  · rw [puts_nodup (keys_nd hn)] at hD
    repeat walk_at "ru"
    refine rd_slN T.C_Table (ObN.up (e1.trans e4) ho) (i := 2) rfl rfl ?_
    repeat walk_at "ru"
    refine ⟨rfl, rfl, ?_⟩
    exact tab_made ⟨d2, ks, D.n, rfl, .inl rfl, hD.da, ok.cs.sub hs hn, ok.n, fun v H' e t o => k v H' ((e1.trans e4).trans e) t o⟩
  · obtain rfl : x = V.str c.1 := hx
    repeat walk_at "ru"
    refine rd_dg ?_
    repeat walk_at "ru"
    refine rd_slN T.C_Table (ObN.up (e1.trans e4) ho) (i := 0) rfl rfl ?_
    repeat walk_at "ru"
    refine col_get (R := ColR K) (.inl (hd.up (e1.trans e4))) ok.cs.nd (hs c hcm) fun v hv => ?_
    exact hk2 _ _ (Same.refl _) hv
))
def putC (cs : Cols) (c : Str × ColD) : Cols := if (cs.any fun x => decide (x.1 = c.1)) = true then cs.map (fun x => if x.1 = c.1 then (x.1, c.2) else x) else cs ++ [c]
theorem putA_keyed {cs : Cols} {c : Str × ColD} : putA (keyed cs) (.inr c.1) c.2 = keyed (putC cs c) := @NI.run _ (by exact NI.carry : NI.Carry (by
  unfold putA putC keyed
  have h : ((cs.map fun c => ((.inr c.1 : Key), c.2)).any fun x => decide (x.1 = (.inr c.1 : Key))) = cs.any fun x => decide (x.1 = c.1) := by
    rw [List.any_map]
    congr 1
    funext x
    exact decide_eq_decide.mpr ⟨fun h => Sum.inr.inj h, fun h => congrArg Sum.inr h⟩
  rw [h]
  split
  · rw [List.map_map, List.map_map]
    refine List.map_congr_left fun x _ => ?_
    simp only [Function.comp]
    by_cases e : x.1 = c.1
    · rw [if_pos e, if_pos (by rw [e])]
    · rw [if_neg e, if_neg (fun z => e (Sum.inr.inj z))]
  · rw [List.map_append]
    rfl
))
theorem putC_names {cs : Cols} {c : Str × ColD} (h : c.1 ∈ cs.map (·.1)) : (putC cs c).map (·.1) = cs.map (·.1) := @NI.run _ (by exact NI.carry : NI.Carry (by
  unfold putC
  rw [if_pos (by
    obtain ⟨x, hx, e⟩ := List.mem_map.mp h
    exact List.any_eq_true.mpr ⟨x, hx, decide_eq_true e⟩), List.map_map]
  refine List.map_congr_left fun x _ => ?_
  simp only [Function.comp]
  split <;> rfl
))
theorem putC_new {cs : Cols} {c : Str × ColD} (h : c.1 ∉ cs.map (·.1)) : putC cs c = cs ++ [c] := @NI.run _ (by exact NI.carry : NI.Carry (by
  unfold putC
  rw [if_neg]
  intro z
  obtain ⟨x, hx, e⟩ := List.any_eq_true.mp z
  exact h (List.mem_map.mpr ⟨x, hx, of_decide_eq_true e⟩)
))
theorem putC_mem {cs : Cols} {c x : Str × ColD} (h : x ∈ putC cs c) : x = c ∨ x ∈ cs := @NI.run _ (by exact NI.carry : NI.Carry (by
  by_cases hc : c.1 ∈ cs.map (·.1)
  · unfold putC at h
    rw [if_pos (by
      obtain ⟨y, hy, e⟩ := List.mem_map.mp hc
      exact List.any_eq_true.mpr ⟨y, hy, decide_eq_true e⟩)] at h
    obtain ⟨y, hy, rfl⟩ := List.mem_map.mp h
    by_cases e : y.1 = c.1
    · rw [if_pos e]
      exact .inl (Prod.ext e rfl)
    · rw [if_neg e]
      exact .inr hy
  · rw [putC_new hc] at h
    rcases List.mem_append.mp h with h | h
    · exact .inr h
    · exact .inl (List.mem_singleton.mp h)
))
theorem CsOk.put {cs : Cols} {n : Nat} {c : Str × ColD} (h : CsOk cs n) (hc : nameB c.1 = true) (hl : c.2.long = n) (hf : (putC cs c).length ≤ 12) : CsOk (putC cs c) n := ⟨fun x hx => by
    rcases putC_mem hx with rfl | hx
    · exact hc
    · exact h.nm x hx, by
    by_cases hin : c.1 ∈ cs.map (·.1)
    · rw [putC_names hin]
      exact h.nd
    · rw [putC_new hin, List.map_append, List.nodup_append]
      refine ⟨h.nd, by simp, fun a ha b hb => ?_⟩
      have hb : b = c.1 := by simpa using hb
      rw [hb]
      exact fun z => hin (z ▸ ha), hf, fun x hx => by
    rcases putC_mem hx with rfl | hx
    · exact hl
    · exact h.len x hx⟩
theorem merge_app : ∀ {more kvs : List (Key × V)}, ((kvs ++ more).map (·.1)).Nodup → mergeK kvs more = kvs ++ more
  | [], kvs, _ => (List.append_nil _).symm
  | (k, v) :: more, kvs, h => by
    have hk : ¬ (kvs.any fun c => decide (c.1 = k)) = true := fun z => by
      obtain ⟨c, hc, e⟩ := List.any_eq_true.mp z
      rw [List.map_append, List.nodup_append] at h
      exact h.2.2 c.1 (List.mem_map.mpr ⟨c, hc, rfl⟩) k (List.mem_map.mpr ⟨(k, v), List.mem_cons_self, rfl⟩) (of_decide_eq_true e)
    show mergeK (putK kvs k v) more = _
    unfold putK
    rw [if_neg hk, merge_app (by rw [List.append_assoc]; exact h), List.append_assoc]
    rfl
theorem merge_nil {kvs : List (Key × V)} (h : (kvs.map (·.1)).Nodup) : mergeK [] kvs = kvs := merge_app (kvs := []) h
def sp_Table_with_column (K : PySem.W.Frag) : Sp := sp3 fun x y z H Q _ => ∃ D c, TabR K H x D ∧ TOk D ∧ y = .str c.1 ∧ ColR K H z c.2 ∧ nameB c.1 = true ∧ c.2.long = D.n ∧ (putC D.cs c).length ≤ 12 ∧ ∀ v H', Same H H' → TabR K H' v ⟨srtC (putC D.cs c), D.n⟩ → TOk ⟨srtC (putC D.cs c), D.n⟩ → Q v H'
abbrev n_Table_with_column : List Str := ["self", "name", "column"]
theorem sc_Table_with_column : FnScope n_Table_with_column ["self", "name", "column"] (defScope s_Table_with_column) := ⟨rfl, rfl, rfl, by decide +kernel, rfl, by decide +kernel, by decide +kernel⟩
theorem cal_Table_with_column (T : Tx P K mg) : FnR P w K mg base (CXW P w) 6 (mA "Table" "with_column" K) (sp_Table_with_column K) := @NI.run _ (by exact NI.carry : NI.Carry (by
  refine fnR_of (k := 5) T.D_Table_with_column sc_Table_with_column (fun _ _ _ _ _ _ us hl => match us, hl with | [_, _, _], _ => rfl) (fun vs H Q E h => ?_) (fun cdv A outer s H vs Q E hr h => ?_)
  · obtain ⟨v0, v1, v2, rfl, _⟩ := h
    rfl
  obtain ⟨v0, v1, v2, rfl, h⟩ := h
  refine ⟨_, pss_cons (ps_if (pt_not (pt_val (pc (cal_is_name T) hr (pa_cons (pv 1) pa_nil))))
        (pss_one ps_never)
        (pss_nil))
      (pss_cons (ps_if (PW.pt (pw_or (pt_not (pt_val (pc (cal_is_column T) hr (pa_cons (pv 2) pa_nil)))) (pw_or1 (pt_cmpR op_ne (pe_callB (call_lenU (cal_Factor___len__ T) T.O_Factor___len__ (cal_Numbers___len__ T) T.O_Numbers___len__ (hr.mono (by decide)) (hr.mono (by decide))) (by rfl) T.N_len (by decide +kernel) (pa_cons (pv 2) pa_nil)) (kSl K (pv 0)) (nomark _)))))
        (pss_one ps_never)
        (pss_nil))
      (pss_one (ps_ret (pmKW (ctorN_Table T) hr takesE (pa_cons (pe_dmore (hu_of hr) (kSl K (pv 0)) (pv 1) (pv 2)) pa_nil) (pk_cons (kSl K (pv 0)) pk_nil))))), ?_⟩
  obtain ⟨D, c, ⟨d, vi, ho, hd, hi⟩, ok, rfl, hz, hnb, hln, hf, k⟩ := h
  have h12 := ok.cs.few
  have h200 := ok.n
  repeat walk_at "ru"
  refine ⟨_, rfl, some c.1, ⟨rfl, by have := nameB_len hnb; omega⟩, fun H5 e5 => ?_⟩
  rw [show oR nameB (some c.1) = true from hnb]
  repeat walk_at "ru"
  refine ⟨_, rfl, c.2, Up.up e5 hz, ?_⟩
  repeat walk_at "ru"
  refine lenU_at (Up.up (R := ColR K) e5 hz) (by omega) ?_
  repeat walk_at "ru"
  refine rd_slN T.C_Table (ObN.up e5 ho) (i := 2) rfl rfl ?_
  repeat walk_at "ru"
  rw [decide_eq_true (show ((c.2.long : Nat) : Int) = (D.n : Int) by omega)]
  repeat walk_at "ru"
  obtain ⟨kvs, hk, hkv⟩ := hd.up e5
  have hkl : kvs.length = D.cs.length := by rw [Paired.length hkv]; exact List.length_map _
  intro p hp
  repeat walk_at "ru"
  refine rd_slN T.C_Table (ObN.up (e5.trans (Same.new hp)) ho) (i := 0) rfl rfl ?_
  have npd : d ≠ p := fun z => by rw [← z, hk] at hp; cases hp
  have hnod : (kvs.map (·.1)).Nodup := by
    rw [kvs_keys (l := keyed D.cs) hkv]
    unfold keyed
    rw [List.map_map]
    exact keys_nd ok.cs.nd
  have hmg : mergeK [] kvs = kvs := merge_nil hnod
  refine ⟨d, kvs, rfl, npd, by rw [upd_ne npd]; exact hk, upd_same, by omega, fun q hq => ?_⟩
  rw [hmg]
  repeat walk_at "ru"
  have npq : p ≠ q := fun z => by rw [← z, upd_same] at hq; cases hq
  have hq5 : H5 q = none := by rw [upd_ne (Ne.symm npq)] at hq; exact hq
  refine ⟨.inr c.1, rfl, npq, upd_same, by rw [upd_ne npq, upd_same], ?_⟩
  rw [show mergeK kvs [(.inr c.1, v2)] = putK kvs (.inr c.1) v2 from rfl]
  have e6 : Same H5 (upd (upd (upd (upd (upd H5 p (.dK [])) p (.dK kvs)) q (.dK [])) q (.dK [(.inr c.1, v2)])) p (.dK (putK kvs (.inr c.1) v2))) := fun b u hb => by
    have b1 := ne_of_none hb hp
    have b2 := ne_of_none hb hq5
    rw [upd_ne b1, upd_ne b2, upd_ne b2, upd_ne b1, upd_ne b1]
    exact hb
  have hp6 : upd (upd (upd (upd (upd H5 p (.dK [])) p (.dK kvs)) q (.dK [])) q (.dK [(.inr c.1, v2)])) p (.dK (putK kvs (.inr c.1) v2)) p = some (.dK (putK kvs (.inr c.1) v2)) := upd_same
  generalize upd _ p (.dK (putK kvs (.inr c.1) v2)) = H6 at e6 hp6 ⊢
  have e06 := e5.trans e6
  repeat walk_at "ru"
  refine rd_slN T.C_Table (ObN.up e06 ho) (i := 2) rfl rfl ?_
  repeat walk_at "ru"
  refine ⟨rfl, rfl, ?_⟩
  refine tab_made ⟨p, putC D.cs c, D.n, rfl, .inl rfl, ⟨_, hp6, ?_⟩, ok.cs.put hnb hln hf, ok.n, fun v H' e t o => k v H' (e06.trans e) t o⟩
  rw [← putA_keyed]
  exact KVs.put (Paired.mono (fun _ _ q => ⟨q.1, Up.up (R := ColR K) e6 q.2⟩) hkv) (Up.up (R := ColR K) e06 hz)
))
theorem fl_rio {H : Hp} {v : V} {o : Option Int} (h : RIo H v o) : v = (match o with | none => V.non | some i => .int i) := @NI.run _ (by exact NI.carry : NI.Carry (by
  cases o with
  | none => exact h
  | some i => exact h.1
))
theorem ei_rio {n : Nat} : EiC P w K mg base n RIo := fun X l => ⟨(eqB_flat (fun H x a h => by
  rw [fl_rio h]
  cases a <;> rfl) fun H x y a b h1 h2 => by
  rw [fl_rio h1, fl_rio h2]
  cases a <;> cases b
  · exact ⟨fun _ => rfl, fun _ => rfl⟩
  · exact ⟨fun z => (by cases z), fun z => (by cases z)⟩
  · exact ⟨fun z => (by cases z), fun z => (by cases z)⟩
  · rename_i i j
    have : (eqV (V.int i) (V.int j) = true) ↔ i = j := beq_iff_eq
    exact this.trans ⟨fun z => congrArg some z, fun z => Option.some.inj z⟩).mono (Nat.zero_le n), fun _ _ _ _ x a b _ h1 h2 => by
  have e := (fl_rio h1).symm.trans (fl_rio h2)
  cases a <;> cases b
  · rfl
  · cases e
  · cases e
  · exact congrArg some (V.int.inj e)⟩
def sp_Factor___eq__ (K : PySem.W.Frag) : Sp := sp2 fun x y H Q _ => ∃ D1, FacR K H x D1 ∧ ((∃ D2, FacR K H y D2 ∧ ∀ H', Same H H' → Q (.bl (decide (D1 = D2))) H') ∨ (NoC K "Factor" H y ∧ Q (.bl false) H))
abbrev n_Factor___eq__ : List Str := ["self", "other"]
theorem sc_Factor___eq__ : FnScope n_Factor___eq__ ["self", "other"] (defScope s_Factor___eq__) := ⟨rfl, rfl, rfl, by decide +kernel, rfl, by decide +kernel, by decide +kernel⟩
theorem cal_Factor___eq__ (T : Tx P K mg) : FnR P w K mg base (CXW P w) 4 (mA "Factor" "__eq__" K) (sp_Factor___eq__ K) := @NI.run _ (by exact NI.carry : NI.Carry (by
  refine fnR_of (k := 3) T.D_Factor___eq__ sc_Factor___eq__ (fun _ _ _ _ _ _ us hl => match us, hl with | [_, _], _ => rfl) (fun vs H Q E h => ?_) (fun cdv A outer s H vs Q E hr h => ?_)
  · obtain ⟨v0, v1, rfl, _⟩ := h
    rfl
  obtain ⟨v0, v1, rfl, h⟩ := h
  refine ⟨_, pss_one (ps_ret (pe_and (pe_callB (kIsi K) (by rfl) T.N_isinstance (by decide +kernel) (pa_cons (pv 1) (pa_cons (pe_gC T.G_Factor) pa_nil))) (pe_and (pe_cmpR (op_or (eqX P w K mg base hr) (eqTX P w K mg base hr)) (kSl K (pv 0)) (kSl K (pv 1)) (nomark _)) (pe_one (pe_cmpR (op_or (eqX P w K mg base hr) (eqTX P w K mg base hr)) (kSl K (pv 0)) (kSl K (pv 1)) (nomark _)))))), ?_⟩
  obtain ⟨⟨l1, c1⟩, h1, h⟩ := h
  repeat walk_at "ru"
  rcases h with ⟨⟨l2, c2⟩, h2, k⟩ | ⟨⟨t, ht, hk⟩, k⟩
  · refine rd_isiY (HasTy.own (slN2 T.C_Factor) (FacR.own h2)) ?_ (.own _) T.K_Factor_Factor
    obtain ⟨vc1, vl1, ho1, hl1, hc1⟩ := h1
    obtain ⟨vc2, vl2, ho2, hl2, hc2⟩ := h2
    repeat walk_at "ru"
    refine rd_slN (slN2 T.C_Factor) ho1 (i := 1) rfl rfl ?_
    repeat walk_at "ru"
    refine rd_slN (slN2 T.C_Factor) ho2 (i := 1) rfl rfl ?_
    refine .inl (rd_eqX (ec_tup ei_str) hl1 hl2 fun H1 e1 => ?_)
    by_cases hl : l1 = l2
    · rw [decide_eq_true hl]
      repeat walk_at "ru"
      refine rd_slN (slN2 T.C_Factor) (ObN.up e1 ho1) (i := 0) rfl rfl ?_
      repeat walk_at "ru"
      refine rd_slN (slN2 T.C_Factor) (ObN.up e1 ho2) (i := 0) rfl rfl ?_
      refine .inl (rd_eqX (ec_tup ei_rio) (Up.up e1 hc1) (Up.up e1 hc2) fun H2 e2 => ?_)
      have k := k _ (e1.trans e2)
      rw [show decide ((l1, c1) = (l2, c2)) = decide (c1 = c2) from decide_eq_decide.mpr ⟨fun z => (Prod.mk.inj z).2, fun z => by rw [hl, z]⟩] at k
      exact k
    · rw [decide_eq_false hl]
      repeat walk_at "ru"
      have k := k _ e1
      rw [decide_eq_false (fun z => hl (Prod.mk.inj z).1)] at k
      exact k
  · refine rd_isiN ht ?_ (.own _) hk
    repeat walk_at "ru"
    exact k
))
theorem et_rqo (T : Tx P K mg) {n : Nat} (hn : 1 ≤ n) : EtC P w K mg base n (RQo K) := fun X l H x y a r1 r2 => by
  cases a with
  | none =>
    obtain rfl : x = V.non := r1
    obtain rfl : y = V.non := r2
    exact eqT_flat rfl rfl
  | some q => exact et_ei (ei_rat (cal_Ratio___eq__ T) T.O_Ratio___eq__ hn) X l H x y q r1.1 r2.1
def sp_Numbers___eq__ (K : PySem.W.Frag) : Sp := sp2 fun x y H Q _ => ∃ D1, NumR K H x D1 ∧ ((NumR K H y D1 ∧ ∀ H', Same H H' → Q (.bl true) H') ∨ (NoC K "Numbers" H y ∧ Q (.bl false) H))
abbrev n_Numbers___eq__ : List Str := ["self", "other"]
theorem sc_Numbers___eq__ : FnScope n_Numbers___eq__ ["self", "other"] (defScope s_Numbers___eq__) := ⟨rfl, rfl, rfl, by decide +kernel, rfl, by decide +kernel, by decide +kernel⟩
theorem cal_Numbers___eq__ (T : Tx P K mg) : FnR P w K mg base (CXW P w) 4 (mA "Numbers" "__eq__" K) (sp_Numbers___eq__ K) := @NI.run _ (by exact NI.carry : NI.Carry (by
  refine fnR_of (k := 3) T.D_Numbers___eq__ sc_Numbers___eq__ (fun _ _ _ _ _ _ us hl => match us, hl with | [_, _], _ => rfl) (fun vs H Q E h => ?_) (fun cdv A outer s H vs Q E hr h => ?_)
  · obtain ⟨v0, v1, rfl, _⟩ := h
    rfl
  obtain ⟨v0, v1, rfl, h⟩ := h
  refine ⟨_, pss_one (ps_ret (pe_and (pe_callB (kIsi K) (by rfl) T.N_isinstance (by decide +kernel) (pa_cons (pv 1) (pa_cons (pe_gC T.G_Numbers) pa_nil))) (pe_one (pe_cmpR (op_or (eqX P w K mg base hr) (eqTX P w K mg base hr)) (kSl K (pv 0)) (kSl K (pv 1)) (nomark _))))), ?_⟩
  obtain ⟨q1, h1, h⟩ := h
  repeat walk_at "ru"
  rcases h with ⟨h2, k⟩ | ⟨⟨t, ht, hk⟩, k⟩
  · refine rd_isiY (HasTy.own T.C_Numbers (NumR.own h2)) ?_ (.own _) T.K_Numbers_Numbers
    obtain ⟨vr1, ho1, hr1⟩ := h1
    obtain ⟨vr2, ho2, hr2⟩ := h2
    repeat walk_at "ru"
    refine rd_slN T.C_Numbers ho1 (i := 0) rfl rfl ?_
    repeat walk_at "ru"
    refine rd_slN T.C_Numbers ho2 (i := 0) rfl rfl ?_
    exact .inr (rd_eqT (rt_tup (et_rqo T (by decide))) hr1 hr2 fun H1 e1 => k _ e1)
  · refine rd_isiN ht ?_ (.own _) hk
    repeat walk_at "ru"
    exact k
))
theorem et_col (T : Tx P K mg) {n : Nat} (hn : 4 ≤ n) : EtC P w K mg base n (ColR K) := fun X l H x y D r1 r2 => by
  obtain ⟨rfl, rfl, rfl, rfl, rfl⟩ := l
  cases D with
  | fac ls cs =>
    have r1' : FacR X.K H x (ls, cs) := r1
    have r2' : FacR X.K H y (ls, cs) := r2
    obtain ⟨_, _, ⟨p, dx, rfl, s1⟩, _⟩ := id r1'
    obtain ⟨_, _, ⟨q, dy, rfl, s2⟩, _⟩ := id r2'
    refine EqT.mono (eqT_refs (rcT_own (cal_Factor___eq__ T) T.O_Factor___eq__ s1 s2 fun H1 e => ?_)) hn
    refine ⟨_, _, rfl, (ls, cs), Up.up e r1', .inl ⟨(ls, cs), Up.up e r2', fun H' e' => ⟨?_, e.trans e'⟩⟩⟩
    rw [decide_eq_true rfl]
  | num qs =>
    have r1' : NumR X.K H x qs := r1
    have r2' : NumR X.K H y qs := r2
    obtain ⟨_, ⟨p, dx, rfl, s1⟩, _⟩ := id r1'
    obtain ⟨_, ⟨q, dy, rfl, s2⟩, _⟩ := id r2'
    refine EqT.mono (eqT_refs (rcT_own (cal_Numbers___eq__ T) T.O_Numbers___eq__ s1 s2 fun H1 e => ?_)) hn
    exact ⟨_, _, rfl, qs, Up.up e r1', .inl ⟨Up.up e r2', fun H' e' => ⟨rfl, e.trans e'⟩⟩⟩
theorem rd_of {H : Hp} {d : Addr} {cs : Cols} (h : DA (ColR K) H d (keyed cs)) (hn : (cs.map (·.1)).Nodup) : RD (ColR K) H (.ref d) (keyed cs) := ⟨d, rfl, h, by
  unfold keyed
  rw [List.map_map]
  exact keys_nd hn⟩
def sp_Table___eq__ (K : PySem.W.Frag) : Sp := sp2 fun x y H Q _ => ∃ D1, TabR K H x D1 ∧ TOk D1 ∧ ((∃ D2, TabR K H y D2 ∧ TOk D2 ∧ (D1.cs = D2.cs ∨ D1.cs.length ≠ D2.cs.length) ∧ ∀ H', Same H H' → Q (.bl (decide (D1.cs = D2.cs ∧ D1.n = D2.n))) H') ∨ (NoC K "Table" H y ∧ Q (.bl false) H))
abbrev n_Table___eq__ : List Str := ["self", "other"]
theorem sc_Table___eq__ : FnScope n_Table___eq__ ["self", "other"] (defScope s_Table___eq__) := ⟨rfl, rfl, rfl, by decide +kernel, rfl, by decide +kernel, by decide +kernel⟩
theorem cal_Table___eq__ (T : Tx P K mg) : FnR P w K mg base (CXW P w) 8 (mA "Table" "__eq__" K) (sp_Table___eq__ K) := @NI.run _ (by exact NI.carry : NI.Carry (by
  refine fnR_of (k := 7) T.D_Table___eq__ sc_Table___eq__ (fun _ _ _ _ _ _ us hl => match us, hl with | [_, _], _ => rfl) (fun vs H Q E h => ?_) (fun cdv A outer s H vs Q E hr h => ?_)
  · obtain ⟨v0, v1, rfl, _⟩ := h
    rfl
  obtain ⟨v0, v1, rfl, h⟩ := h
  refine ⟨_, pss_one (ps_ret (pe_and (pe_callB (kIsi K) (by rfl) T.N_isinstance (by decide +kernel) (pa_cons (pv 1) (pa_cons (pe_gC T.G_Table) pa_nil))) (pe_and (pe_cmpR (op_or (op_or (eqX P w K mg base hr) (eqTX P w K mg base hr)) (op_eqDL hr)) (kSl K (pv 0)) (kSl K (pv 1)) (nomark _)) (pe_one (pe_cmpR op_eq (kSl K (pv 0)) (kSl K (pv 1)) (nomark _)))))), ?_⟩
  obtain ⟨D1, h1, ok1, h⟩ := h
  repeat walk_at "ru"
  rcases h with ⟨D2, h2, ok2, hor, k⟩ | ⟨⟨t, ht, hk⟩, k⟩
  · refine rd_isiY (HasTy.own T.C_Table h2.own) ?_ (.own _) T.K_Table_Table
    obtain ⟨d1, i1, ho1, hd1, hi1⟩ := h1
    obtain ⟨d2, i2, ho2, hd2, hi2⟩ := h2
    repeat walk_at "ru"
    refine rd_slN T.C_Table ho1 (i := 0) rfl rfl ?_
    repeat walk_at "ru"
    refine rd_slN T.C_Table ho2 (i := 0) rfl rfl ?_
    rcases hor with hc | hc
    · refine .inl (.inr (rd_eqT (rt_dict (et_col T (by decide))) (rd_of hd1 ok1.cs.nd) (rd_of (hc ▸ hd2) ok1.cs.nd) fun H1 e1 => ?_))
      repeat walk_at "ru"
      refine rd_slN T.C_Table (ObN.up e1 ho1) (i := 2) rfl rfl ?_
      repeat walk_at "ru"
      refine rd_slN T.C_Table (ObN.up e1 ho2) (i := 2) rfl rfl ?_
      repeat walk_at "ru"
      have k := k _ e1
      rw [show decide (D1.cs = D2.cs ∧ D1.n = D2.n) = decide ((D1.n : Int) = (D2.n : Int)) from decide_eq_decide.mpr ⟨fun z => congrArg Nat.cast z.2, fun z => ⟨hc, by omega⟩⟩] at k
      exact k
    · obtain ⟨ka, ga, ra⟩ := hd1
      obtain ⟨kb, gb, rb⟩ := hd2
      refine .inr ⟨d1, d2, ka, kb, rfl, rfl, .inl ga, .inl gb, ?_, ?_⟩
      · rw [Paired.length ra, Paired.length rb]
        unfold keyed
        rw [List.length_map, List.length_map]
        exact hc
      · repeat walk_at "ru"
        have k := k _ (Same.refl _)
        rw [decide_eq_false (fun z => hc (congrArg List.length z.1))] at k
        exact k
  · refine rd_isiN ht ?_ (.own _) hk
    repeat walk_at "ru"
    exact k
))
def colWord (c : Str × ColD) : Str := Str.empty ++ c.1 ++ " " ++ c.2.kind
def tabStr (D : TabD) : Str := if D.cs = [] then Str.empty ++ "table of " ++ Str.ofString (toString (D.n : Int)) ++ " rows" else Str.empty ++ "table of " ++ Str.ofString (toString (D.n : Int)) ++ " rows: " ++ Txt.join ", " (D.cs.map colWord)
theorem rd_fmt {te : TE} {σ : L2.St} {H : Hp} {Q : VK} (q : te σ H fun x H1 => (∃ y : Str, x = .str y ∧ y.length ≤ sizeLine ∧ Q (.str y) H1) ∨ ∃ i : Int, x = .int i ∧ i.natAbs.log2 < 1920 ∧ Q (.str (toString i)) H1) : tFmt te σ H Q := q
theorem join_len (a : Str) : ∀ ys : List Str, (Str.join a ys).length ≤ (ys.map (·.length)).sum + ys.length * a.length
  | [] => Nat.zero_le _
  | [x] => by
    show x.length ≤ _
    simp
  | x :: z :: r => by
    have ih := join_len a (z :: r)
    show (x ++ a ++ Str.join a (z :: r)).length ≤ _
    rw [str_len, str_len, List.map_cons, List.sum_cons, List.length_cons, Nat.succ_mul]
    omega
theorem sum_len {m : Nat} : ∀ {ys : List Str}, (∀ y ∈ ys, y.length ≤ m) → (ys.map (·.length)).sum ≤ ys.length * m
  | [], _ => Nat.zero_le _
  | y :: ys, h => by
    have ih := sum_len (fun z hz => h z (List.mem_cons_of_mem _ hz))
    have h1 := h y List.mem_cons_self
    rw [List.map_cons, List.sum_cons, List.length_cons, Nat.succ_mul]
    omega
theorem kind_len (D : ColD) : D.kind.length = 6 := @NI.run _ (by exact NI.carry : NI.Carry (by cases D <;> rfl
))
theorem word_len {c : Str × ColD} (h : c.1.length ≤ 8) : (colWord c).length ≤ 15 := @NI.run _ (by exact NI.carry : NI.Carry (by
  unfold colWord
  rw [str_len, str_len, str_nil, kind_len]
  have : (" " : Str).length = 1 := rfl
  omega
))
theorem num_len {n : Nat} (h : n ≤ 200) : (Str.ofString (toString (n : Int)) : Str).length ≤ 3 := @NI.run _ (by exact NI.carry : NI.Carry (by
  have := (by decide +kernel : ∀ n : Fin 201, (Str.ofString (toString (n.1 : Int)) : Str).length ≤ 3)
  exact this ⟨n, by omega⟩
))
def sp_Table___str__ (K : PySem.W.Frag) : Sp := sp1 fun x H Q _ => ∃ D, TabR K H x D ∧ TOk D ∧ ∀ H', Same H H' → Q (.str (tabStr D)) H'
abbrev n_Table___str__ : List Str := ["self", "words", "name"]
theorem sc_Table___str__ : FnScope n_Table___str__ ["self"] (defScope s_Table___str__) := ⟨rfl, rfl, rfl, by decide +kernel, rfl, by decide +kernel, by decide +kernel⟩
theorem cal_Table___str__ (T : Tx P K mg) : FnR P w K mg base (CXW P w) 10 (mA "Table" "__str__" K) (sp_Table___str__ K) := @NI.run _ (by exact NI.carry : NI.Carry (by
  refine fnR_of (k := 9) T.D_Table___str__ sc_Table___str__ (fun _ _ _ _ _ _ us hl => match us, hl with | [_], _ => rfl) (fun vs H Q E h => ?_) (fun cdv A outer s H vs Q E hr h => ?_)
  · obtain ⟨v0, rfl, _⟩ := h
    rfl
  obtain ⟨v0, rfl, h⟩ := h
  refine ⟨_, pss_cons (ps_lock (ps_setLc (i := 1) (own := [("name", 2)]) (g := gName 2) (tt := tYes) (by rfl) sc_Table___str__.nd rfl rfl (sw_true rfl rfl rfl (by decide +kernel)) (pi_keys (kSl K (pv 0))) (blkOk_by (own := [("name", 2)]) (N := n_Table___str__) (by rfl)) (fun _ _ _ _ _ => pg_name (i := 2) sc_Table___str__.nd rfl (by first | exact Or.inl rfl | exact Or.inr rfl)) (fun _ _ _ _ _ => pts_nil) (fun _ _ _ _ _ => pe_hid (pe_joined (PJ.cons (pe_fmt (pv 2)) (PJ.cons pe_str (PJ.cons (pe_fmt (ppU (prop_Factor_kind T) (prop_Numbers_kind T) hr (pe_dget (hu_of hr) (kSl K (pv 0)) (pv 2) (fun _ _ => rfl)))) PJ.nil)))))))
      (pss_cons (ps_if (pt_cmpR (op_or (eqX P w K mg base hr) (eqTX P w K mg base hr)) (pv 1) (pe_lst pa_nil) (nomark _))
        (pss_one (ps_ret (pe_joined (PJ.cons pe_str (PJ.cons (pe_fmtL T.Z_digits hr (kSl K (pv 0))) (PJ.cons pe_str PJ.nil))))))
        (pss_nil))
      (pss_one (ps_ret (pe_joined (PJ.cons pe_str (PJ.cons (pe_fmtL T.Z_digits hr (kSl K (pv 0))) (PJ.cons pe_str (PJ.cons (pe_fmt (pe_join pe_str (pv 1))) PJ.nil)))))))), ?_⟩
  obtain ⟨D, ⟨d, vi, ho, hd, hi⟩, ok, k⟩ := h
  obtain ⟨kvs, hk, hkv, hL⟩ := hd.lock
  have h12 := ok.cs.few
  have h200 := ok.n
  repeat walk_at "ru"
  refine ⟨d, .dK kvs, hk, True.intro, fun od => ?_⟩
  have hoL : ObN (gA "Table" K) (upd H d (.frz od (.dK kvs))) v0 _ := obn_lock hk ho
  repeat walk_at "ru"
  refine rd_lcKy ?_
  repeat walk_at "ru"
  refine rd_slN T.C_Table hoL (i := 0) rfl rfl ?_
  refine ⟨d, od, rfl, .inl ⟨kvs, upd_same, lcK_name (S := RS) (K := K) (R := RNg (fun c : Str × ColD => c.1)) (wk_keysG upd_same (keys_names hkv)) (by have := (by decide : 12 ≤ sizeLine); omega) colWord (fun v H4 e4 hv => ?_) (fun c G x hcm e4 hx Kt hk2 => ?_)⟩⟩
  · refine ⟨e4 _ _ upd_same, ?_⟩
    have e5 : Same H (upd H4 d (.dK kvs)) := same_lockK hk e4
    have hv5 := rl_unlockK (u := .dK kvs) (e4 _ _ upd_same) (fun _ _ h => h) hv
    generalize upd H4 d (.dK kvs) = H5 at e5 hv5 ⊢
    repeat walk_at "ru"
    refine ⟨Nat.zero_le _, fun p hp => ?_⟩
    have e6 : Same H5 (upd H5 p (.lst [])) := Same.new hp
    refine .inl (rd_eqX (b := []) (ec_lst ei_str) (Up.up e6 hv5) (RL.mk hp .nil (Nat.zero_le _)) fun H7 e7 => ?_)
    have e07 := (e5.trans e6).trans e7
    have hnl := num_len h200
    have n200 : ((D.n : Int)).natAbs < 10 ^ 4300 := by
      have : (200 : Nat) < 10 ^ 4300 := by decide +kernel
      omega
    have big : 1000000 ≤ sizeLine := by decide
    have l1 : ("table of " : Str).length = 9 := rfl
    have l2 : (" rows" : Str).length = 5 := rfl
    have l3 : (" rows: " : Str).length = 7 := rfl
    by_cases hcs : D.cs = []
    · rw [decide_eq_true (by rw [hcs]; rfl)]
      repeat walk_at "ru"
      refine rd_js ?_
      repeat walk_at "ru"
      refine ⟨_, rfl, by rw [str_nil, l1]; omega, rd_js ?_⟩
      repeat walk_at "ru"
      refine rd_slN T.C_Table (ObN.up e07 ho) (i := 2) rfl rfl ⟨_, rfl, n200, _, rfl, by rw [str_nil, str_len, l1]; omega, rd_js ?_⟩
      repeat walk_at "ru"
      refine ⟨_, rfl, by rw [str_nil, str_len, str_len, l1, l2]; omega, rd_js0 ?_⟩
      have k := k _ e07
      unfold tabStr at k
      rw [if_pos hcs] at k
      exact k
    · rw [decide_eq_false (fun z => hcs (List.map_eq_nil_iff.mp z))]
      repeat walk_at "ru"
      refine rd_js ?_
      repeat walk_at "ru"
      refine ⟨_, rfl, by rw [str_nil, l1]; omega, rd_js ?_⟩
      repeat walk_at "ru"
      refine rd_slN T.C_Table (ObN.up e07 ho) (i := 2) rfl rfl ⟨_, rfl, n200, _, rfl, by rw [str_nil, str_len, l1]; omega, rd_js ?_⟩
      repeat walk_at "ru"
      refine ⟨_, rfl, by rw [str_nil, str_len, str_len, l1, l3]; omega, rd_js ?_⟩
      refine rd_fmt ?_
      refine rd_join (X := cxOf (CXW P w) P w K mg base n_Table___str__ "Table.__str__" (defScope s_Table___str__) (mA "Table" "__str__" K) cdv A outer s H E) ?_
      repeat walk_at "ru"
      refine ⟨⟨_, rfl⟩, ?_⟩
      repeat walk_at "ru"
      obtain ⟨q, vs, rfl, sq, ra, _⟩ := Up.up (e6.trans e7) hv5
      obtain rfl := RAll.of_strs ra
      have hs : ((D.cs.map colWord).map (·.length)).sum ≤ 12 * 15 := Nat.le_trans (sum_len (m := 15) fun y hy => by
        obtain ⟨c, hc, rfl⟩ := List.mem_map.mp hy
        exact word_len (nameB_len (ok.cs.nm c hc)).2) (Nat.mul_le_mul_right 15 (by rw [List.length_map]; exact h12))
      have hm : (D.cs.map colWord).length * (", " : Str).length ≤ 24 := by
        rw [List.length_map, show (", " : Str).length = 2 from rfl]
        omega
      have hj : (Txt.join ", " (D.cs.map colWord)).length ≤ 204 := by
        have := join_len ", " (D.cs.map colWord)
        rw [← TL.join_eq] at this
        omega
      refine ⟨_, _, _, rfl, rfl, .inl sq, by omega, ?_⟩
      refine .inl ⟨_, rfl, by omega, _, rfl, by rw [str_nil, str_len, str_len, str_len, l1, l3]; omega, rd_js0 ?_⟩
      have k := k _ e07
      unfold tabStr at k
      rw [if_neg hcs] at k
      exact k
  · obtain rfl : x = V.str c.1 := hx
    have h8 := (nameB_len (ok.cs.nm c hcm)).2
    have hk6 := kind_len c.2
    have big : 1000000 ≤ sizeLine := by decide
    refine rd_js ?_
    refine rd_fmt ?_
    repeat walk_at "ru"
    have l1 : (" " : Str).length = 1 := rfl
    refine .inl ⟨_, rfl, by omega, _, rfl, by rw [str_nil]; omega, rd_js ?_⟩
    repeat walk_at "ru"
    refine ⟨_, rfl, by rw [str_nil, str_len, l1]; omega, rd_js ?_⟩
    refine rd_fmt ?_
    refine rd_propU ?_
    refine rd_dg ?_
    repeat walk_at "ru"
    refine rd_slN T.C_Table (ObN.up e4 hoL) (i := 0) rfl rfl ?_
    repeat walk_at "ru"
    refine col_get (R := ColR K) (.inr ((hL od).up e4)) ok.cs.nd hcm fun v hv => ?_
    refine kindU_at hv ?_
    refine .inl ⟨_, rfl, by omega, _, rfl, by rw [str_nil, str_len, str_len, l1, hk6]; omega, rd_js0 ?_⟩
    exact hk2 _ _ (Same.refl _) rfl
))
def RLv (ls : List Str) : Rl (Option Int) := fun _ v o => match o with
  | none => v = .non
  | some c => ∃ i : Nat, c = (i : Int) ∧ ∃ h : i < ls.length, v = .str ls[i]
instance {ls : List Str} : Up (RLv ls) := ⟨fun {H H' v o} _ h => by cases o <;> exact h⟩
theorem rd_dcET {K : PySem.W.Frag} {ta : TA} {g : TG} {tk tv : TE} {vs : List Nat} {σ : L2.St} {H : Hp} {Q : VK} (q : ta σ H fun us H1 => ∃ a xs, us = [.ref a] ∧ SqT K H1 a xs ∧ DcK (IteT K a) H1 g tk tv vs σ Q) : tDc (iEnumT K ta) g tYes tk tv vs σ H Q := q
theorem dcET {K : PySem.W.Frag} {α : Type} {R : Rl α} [Up R] {H : Hp} {x : V} {as : List α} {g : TG} {tk tv : TE} {vs : List Nat} {σ : L2.St} {Q : VK} (h : RT K R H x as) (q : ∀ J, Wk J H (RP K RI R) ((rgI 0 as.length).zip as) → ((rgI 0 as.length).zip as).length ≤ sizeLine → DcK J H g tk tv vs σ Q) : ∃ a xs, [x] = [.ref a] ∧ SqT K H a xs ∧ DcK (IteT K a) H g tk tv vs σ Q := @NI.run _ (by exact NI.carry : NI.Carry (by
  obtain ⟨p, ws, rfl, s, r, z⟩ := id h
  exact ⟨p, ws, rfl, s, q _ (wk_enumT h) (by rw [List.length_zip, rgI_len, Nat.min_self, ← r.len]; exact z)⟩
))
def lvP (ls : List Str) : List (Str × Int) := ((rgI 0 ls.length).zip ls).map fun p => (p.2, p.1)
theorem lvP_names {ls : List Str} : (lvP ls).map (·.1) = ls := @NI.run _ (by exact NI.carry : NI.Carry (by
  unfold lvP
  rw [List.map_map, show ((fun x : Str × Int => x.1) ∘ fun p : Int × Str => (p.2, p.1)) = Prod.snd from rfl, List.map_snd_zip]
  rw [rgI_len]
  exact Nat.le_refl _
))
theorem lvP_mem {ls : List Str} {i : Nat} (h : i < ls.length) : (ls[i], (i : Int)) ∈ lvP ls := @NI.run _ (by exact NI.carry : NI.Carry (by
  unfold lvP
  refine List.mem_map.mpr ⟨((i : Int), ls[i]), List.mem_of_getElem? (i := i) ?_, rfl⟩
  rw [List.getElem?_zip_eq_some]
  exact ⟨by rw [rgI_get h]; simp, List.getElem?_eq_getElem h⟩
))
def sp_Factor_of_names (K : PySem.W.Frag) : Sp := sp3 fun x y z H Q _ => ∃ ls cs, x = .ref (gA "Factor" K) ∧ RT K RS H y ls ∧ RT K (RLv ls) H z cs ∧ LvOk ls ∧ CdOk ls.length cs ∧ ∀ v H', Same H H' → FacR K H' v (ls, cs) → Q v H'
abbrev n_Factor_of_names : List Str := ["cls", "levels", "texts", "text", "places", "at", "level"]
theorem sc_Factor_of_names : FnScope n_Factor_of_names ["cls", "levels", "texts"] (defScope s_Factor_of_names) := ⟨rfl, rfl, rfl, by decide +kernel, rfl, by decide +kernel, by decide +kernel⟩
theorem cal_Factor_of_names (T : Tx P K mg) : FnR P w K mg base (CXW P w) 6 (rA "classmethod" "Factor" "of_names" K) (sp_Factor_of_names K) := @NI.run _ (by exact NI.carry : NI.Carry (by
  refine fnR_of (k := 5) T.D_Factor_of_names sc_Factor_of_names (fun _ _ _ _ _ _ us hl => match us, hl with | [_, _, _], _ => rfl) (fun vs H Q E h => ?_) (fun cdv A outer s H vs Q E hr h => ?_)
  · obtain ⟨v0, v1, v2, rfl, _⟩ := h
    rfl
  obtain ⟨v0, v1, v2, rfl, h⟩ := h
  refine ⟨_, pss_cons (ps_if (PW.pt (pw_or (pt_not (pt_val (pc (cal_are_levels T) hr (pa_cons (pv 1) pa_nil)))) (pw_or1 (pt_not (pt_val (pe_callB (kIsi K) (by rfl) T.N_isinstance (by decide +kernel) (pa_cons (pv 2) (pa_cons (pe_bltn (v := .ty "tuple") (by rfl) T.N_tuple (by decide +kernel) rfl) pa_nil))))))))
        (pss_one ps_never)
        (pss_nil))
      (pss_cons (ps_if (pt_not (pt_val (pe_callB (kAll K) (by rfl) T.N_all (by decide +kernel) (pa_cons (pe_lc (own := [("text", 3)]) (g := gName 3) (tt := tYes) (by rfl) sc_Factor_of_names.nd (kPiT K (pv 2)) (blkOk_by (own := [("text", 3)]) (N := n_Factor_of_names) (by rfl)) (fun _ _ _ _ _ => pg_name (i := 3) sc_Factor_of_names.nd rfl (by first | exact Or.inl rfl | exact Or.inr rfl)) (fun _ _ _ _ _ => pts_nil) (fun _ _ _ _ _ => pe_hid (pe_or (pe_cmpR op_isN (pv 3) pe_non (nomark _)) (pe_one (pe_and (pe_callB (kIsi K) (by rfl) T.N_isinstance (by decide +kernel) (pa_cons (pv 3) (pa_cons (pe_bltn (v := .ty "str") (by rfl) T.N_str (by decide +kernel) rfl) pa_nil))) (pe_one (pe_cmpR (kInSeq K) (pv 3) (pv 1) (by with_unfolding_all rfl)))))))) pa_nil))))
        (pss_one ps_never)
        (pss_nil))
      (pss_cons (ps_set (i := 4) sc_Factor_of_names.nd rfl (by first | exact Or.inl rfl | exact Or.inr rfl) (pe_dc (own := [("at", 5), ("level", 6)]) (g := gTup K 2 (gCons (gName 5) (gCons (gName 6) gNil))) (tt := tYes) (by rfl) sc_Factor_of_names.nd (pi_enumT (K := K) (by rfl) T.N_enumerate (pa_cons (pv 1) pa_nil)) (blkOk_by (own := [("at", 5), ("level", 6)]) (N := n_Factor_of_names) (by rfl)) (fun _ _ _ _ _ => kTup K (by rfl) (pgs_cons (pg_name (i := 5) sc_Factor_of_names.nd rfl (by first | exact Or.inl rfl | exact Or.inr rfl)) (pgs_cons (pg_name (i := 6) sc_Factor_of_names.nd rfl (by first | exact Or.inl rfl | exact Or.inr rfl)) pgs_nil))) (fun _ _ _ _ _ => pts_nil) (fun _ _ _ _ _ => pv 6) (fun _ _ _ _ _ => pv 5)))
      (pss_one (ps_ret (pmV (ctor_Factor T) T.G_Factor hr (pa_cons (pv 1) (pa_cons (pe_callTy (kTuple K) (by rfl) T.N_tuple (by decide +kernel) (pa_cons (pe_lc (own := [("text", 3)]) (g := gName 3) (tt := tYes) (by rfl) sc_Factor_of_names.nd (kPiT K (pv 2)) (blkOk_by (own := [("text", 3)]) (N := n_Factor_of_names) (by rfl)) (fun _ _ _ _ _ => pg_name (i := 3) sc_Factor_of_names.nd rfl (by first | exact Or.inl rfl | exact Or.inr rfl)) (fun _ _ _ _ _ => pts_nil) (fun _ _ _ _ _ => pe_hid (pe_ifExp (pt_cmpR op_isN (pv 3) pe_non (nomark _)) pe_non (pe_dget (hu_of hr) (pv 4) (pv 3) (fun _ _ => rfl))))) pa_nil)) pa_nil)) (i := 0) rfl (by exact Or.inl rfl)))))), ?_⟩
  obtain ⟨ls, cs, rfl, hy, hz, hl, hc, k⟩ := h
  repeat walk_at "ru"
  refine ⟨_, rfl, ls, hy, hl, fun H1 e1 => ?_⟩
  repeat walk_at "ru"
  refine rd_isiY (HasTy.rt (Up.up e1 hz)) ?_ (.ty "tuple")
  repeat walk_at "ru"
  refine lcT (Up.up e1 hz) fun J W hz0 => lcK_name (S := RB) (K := K) W hz0 (fun _ => true) (fun v H4 e4 hv => ?_) (fun o G x hz2 e4 hx2 Kt hk2 => ?_)
  · repeat walk_at "ru"
    refine rd_all hv ?_
    rw [show (cs.map fun _ => true).all id = true by rw [List.all_map]; exact List.all_eq_true.mpr fun z hz => rfl]
    repeat walk_at "ru"
    refine rd_dcET ?_
    repeat walk_at "ru"
    have nd2 : (((rgI 0 ls.length).zip ls).map fun p => (.inr p.2 : Key)).Nodup := by
      have h1 := keys_nd (cs := lvP ls) (by rw [lvP_names]; exact hl.nd)
      unfold lvP at h1
      rw [List.map_map] at h1
      exact h1
    refine dcET (Up.up (e1.trans e4) hy) fun J2 W2 hz2 => dcK_map (S := RI) W2 hz2 (fun p => .inr p.2) (fun p => p.1) (fun d2 H5 e5 hd2 hD => ?_) (fun p G x hpm e5 hx => ?_)
    · rw [puts_nodup nd2] at hD
      have hD2 : DA RI H5 d2 ((lvP ls).map fun c => (.inr c.1, c.2)) := by
        have := hD.da
        unfold lvP
        rw [List.map_map]
        exact this
      have e05 := (e1.trans e4).trans e5
      repeat walk_at "ru"
      refine rd_callV rfl ?_
      repeat walk_at "ru"
      refine lcT (Up.up e05 hz) fun J3 W3 hz3 => lcK_name (S := RIo) (K := K) W3 hz3 (fun c => c) (fun v3 H6 e6 hv3 => ?_) (fun o G x hom e6 hx Kt hk2 => ?_)
      · repeat walk_at "ru"
        refine rd_tupleL hv3 fun w9 H9 e9 hw9 => ?_
        repeat walk_at "ru"
        rw [List.map_id'] at hw9
        exact ⟨_, _, rfl, ls, cs, Up.up ((e05.trans e6).trans e9) hy, hw9, hl, hc, fun v H' e hf => k v H' (((e05.trans e6).trans e9).trans e) hf⟩
      · cases o with
        | none =>
          obtain rfl : x = V.non := hx
          repeat walk_at "ru"
          refine ⟨rfl, ?_⟩
          rw [decide_eq_true rfl]
          repeat walk_at "ru"
          exact hk2 _ _ (Same.refl _) rfl
        | some c =>
          obtain ⟨i, rfl, hi, rfl⟩ := hx
          repeat walk_at "ru"
          refine ⟨rfl, ?_⟩
          rw [decide_eq_false (show ¬ (V.str ls[i] = V.non) from fun h => by cases h)]
          repeat walk_at "ru"
          refine rd_dg ?_
          repeat walk_at "ru"
          refine col_get (R := RI) (c := (ls[i], (i : Int))) (.inl (hD2.up e6)) (by rw [lvP_names]; exact hl.nd) (lvP_mem hi) fun v hv => ?_
          exact hk2 _ _ (Same.refl _) ⟨hv, fun h => by rw [show v = V.int (i : Int) from hv] at h; cases h⟩
    · obtain ⟨q, y, z, rfl, sq, ry, rz⟩ := hx
      obtain rfl : y = V.int p.1 := ry
      obtain rfl : z = V.str p.2 := rz
      refine ⟨_, gok_pair sq gok_name gok_name, by rfl, fun Kt hk2 => ?_⟩
      repeat walk_at "ru"
      exact hk2 _ _ (Same.refl _) rfl
  · cases o with
    | none =>
      obtain rfl : x = V.non := hx2
      repeat walk_at "ru"
      refine ⟨rfl, ?_⟩
      rw [decide_eq_true rfl]
      repeat walk_at "ru"
      exact hk2 _ _ (Same.refl _) rfl
    | some c =>
      obtain ⟨i, rfl, hi, rfl⟩ := hx2
      repeat walk_at "ru"
      refine ⟨rfl, ?_⟩
      rw [decide_eq_false (show ¬ (V.str ls[i] = V.non) from fun h => by cases h)]
      repeat walk_at "ru"
      refine rd_isiY HasTy.str ?_ (.ty "str")
      repeat walk_at "ru"
      refine rd_inRS (Up.up (e1.trans e4) hy) ?_
      rw [decide_eq_true (List.getElem_mem hi)]
      exact hk2 _ _ (Same.refl _) rfl
))
def Kp (H H' : Hp) (u b : Addr) : Prop := ∀ p o, H p = some o → p ≠ u → p ≠ b → H' p = some o
theorem Kp.tr {H H' H2 : Hp} {u b : Addr} (h : Kp H H' u b) (e : Same H' H2) : Kp H H2 u b := fun p o q n1 n2 => e p o (h p o q n1 n2)
theorem Kp.up {H H' : Hp} {u b c : Addr} {x : HO} (h : Kp H H' u b) (hc : c = u ∨ c = b) : Kp H (upd H' c x) u b := fun p o q n1 n2 => by
  rw [upd_ne (by rcases hc with rfl | rfl; exact n1; exact n2)]
  exact h p o q n1 n2
theorem ixN0 {a : Int} {ns : List Int} : ixN ((a :: ns).map V.int).length 0 = some 0 := @NI.run _ (by exact NI.carry : NI.Carry (by
  unfold ixN
  rw [if_pos (Int.le_refl 0), if_pos (by rw [List.length_map, List.length_cons]; omega)]
  rfl
))
def sp_w_turn (K : PySem.W.Frag) : Sp := sp2 fun x y H Q _ => ∃ (u b : Addr) (ns : List Int) (m c t : Int), x = .ref u ∧ u ≠ b ∧ H u = some (.lst [.ref b, .int m, .int c]) ∧ H b = some (.lst (ns.map V.int)) ∧ ns.length ≤ sizeLine ∧ y = .int t ∧ 0 < t ∧ t ≤ 1000 ∧
  ∀ (k : Int) (ns' : List Int) (c' : Int) H', 0 ≤ k → k < t → Kp H H' u b → H' u = some (.lst [.ref b, .int m, .int c']) → H' b = some (.lst (ns'.map V.int)) → ns'.length ≤ sizeLine → Q (.int k) H'
abbrev n_w_turn : List Str := ["_law_reel_here", "_law_total", "_law_one", "_law_two"]
theorem sc_w_turn : FnScope n_w_turn ["_law_reel_here", "_law_total"] (defScope s_w_turn) := ⟨rfl, rfl, rfl, by decide +kernel, rfl, by decide +kernel, by decide +kernel⟩
theorem cal_w_turn (T : Tx P K mg) : Cal P w K mg base 10 "_law_turn" (sp_w_turn K) := @NI.run _ (by exact NI.carry : NI.Carry (by
  refine cal_of (k := 9) T.G_w_turn T.D_w_turn sc_w_turn (fun _ _ _ _ _ _ us hl => match us, hl with | [_, _], _ => rfl) (fun vs H Q E h => ?_) (fun cdv A outer s H vs Q E hr h => ?_)
  · obtain ⟨v0, v1, rfl, _⟩ := h
    rfl
  obtain ⟨v0, v1, rfl, h⟩ := h
  refine ⟨_, pss_cons (ps_while (passes_of rfl) (PW.pt (pw_and (pt_cmpR (op_or (op_or (neX P w K mg base hr) (neTX P w K mg base hr)) (neE hr)) (pe_ix (kIxL K) (pv 0) pe_int (fun _ _ => rfl)) (pe_lst pa_nil) (nomark _)) (pw_and1 (pt_cmpR op_eq (pe_ix (kIxL K) (pe_ix (kIxL K) (pv 0) pe_int (fun _ _ => rfl)) pe_int (fun _ _ => rfl)) pe_int (nomark _)))))
        (pss_one (ps_expr (pe_bm PySem.F.plainAttrs_list PySem.F.slot_list_pop PySem.F.type_list_pop mt_popAt (pe_ix (kIxL K) (pv 0) pe_int (fun _ _ => rfl)) (pa_cons pe_int pa_nil)))))
      (pss_cons (ps_if (pt_cmpR (op_or (op_or (neX P w K mg base hr) (neTX P w K mg base hr)) (neE hr)) (pe_ix (kIxL K) (pv 0) pe_int (fun _ _ => rfl)) (pe_lst pa_nil) (nomark _))
        (pss_cons (ps_set (i := 2) sc_w_turn.nd rfl (by first | exact Or.inl rfl | exact Or.inr rfl) (pe_callTy bi_int1 (by rfl) T.N_int (by decide +kernel) (pa_cons (pe_ix (kIxL K) (pe_ix (kIxL K) (pv 0) pe_int (fun _ _ => rfl)) pe_int (fun _ _ => rfl)) pa_nil)))
      (pss_cons (ps_asg (pe_op op_fdivA (pv 2) (pv 1)) (pg_sub (pe_ix (kIxL K) (pv 0) pe_int (fun _ _ => rfl)) pe_int set_list))
      (pss_one (ps_ret (pe_op op_mod (pv 2) (pv 1))))))
        (pss_nil))
      (pss_cons (ps_asg (pe_op op_add (pe_ix (kIxL K) (pv 0) pe_int (fun _ _ => rfl)) pe_int) (pg_sub (pv 0) pe_int set_list))
      (pss_cons (ps_set (i := 2) sc_w_turn.nd rfl (by first | exact Or.inl rfl | exact Or.inr rfl) (pe_op op_mod (pe_callTy bi_int1 (by rfl) T.N_int (by decide +kernel) (pa_cons (pe_op op_add (pe_op op_mul (pe_ix (kIxL K) (pv 0) pe_int (fun _ _ => rfl)) pe_int) (pe_op op_mul (pe_ix (kIxL K) (pv 0) pe_int (fun _ _ => rfl)) pe_int)) pa_nil)) pe_int))
      (pss_cons (ps_set (i := 3) sc_w_turn.nd rfl (by first | exact Or.inl rfl | exact Or.inr rfl) (pe_op op_mod (pe_callTy bi_int1 (by rfl) T.N_int (by decide +kernel) (pa_cons (pe_op op_add (pe_op op_mulW (pv 2) (pv 2)) (pe_op op_mul pe_int (pe_ix (kIxL K) (pv 0) pe_int (fun _ _ => rfl)))) pa_nil)) pe_int))
      (pss_one (ps_ret (pe_op op_mod (pe_callTy bi_int1 (by rfl) T.N_int (by decide +kernel) (pa_cons (pe_op op_fdivA (pe_op op_mod (pe_callTy bi_int1 (by rfl) T.N_int (by decide +kernel) (pa_cons (pe_op op_add (pe_op op_mul (pv 3) pe_int) (pv 2)) pa_nil)) pe_int) pe_int) pa_nil)) (pv 1)))))))), ?_⟩
  obtain ⟨u, b, ns, m, c, t, rfl, hub, hu, hb, hz, rfl, ht, ht2, k⟩ := h
  repeat walk_at "ru"
  refine ⟨fun n σ' H' => ∃ ns : List Int, n = ns.length ∧ σ' = [some (.ref u), some (.int t), none, none] ∧ Kp H H' u b ∧ H' u = some (.lst [.ref b, .int m, .int c]) ∧ H' b = some (.lst (ns.map V.int)) ∧ ns.length ≤ sizeLine, ⟨_, ns, rfl, rfl, fun _ _ q _ _ => q, hu, hb, hz⟩, ?_⟩
  rintro n σ' H' ⟨ns, rfl, rfl, kp, hu', hb', hz'⟩
  repeat walk_at "ru"
  refine rd_ixC (n := 0) hu' ?_
  repeat walk_at "ru"
  refine ⟨Nat.zero_le _, fun p hp => ?_⟩
  have npb : b ≠ p := fun z => by rw [← z, hb'] at hp; cases hp
  refine .inr ⟨b, p, ns.map V.int, rfl, rfl, .inl (.inl (by rw [upd_ne npb]; exact hb')), by rw [List.length_map]; exact hz', .inl (.inl upd_same), fun H2 e2 => ?_⟩
  have e02 : Same H' H2 := (Same.new hp).trans e2
  have kp2 := kp.tr e02
  have hu2 := e02 _ _ hu'
  have hb2 := e02 _ _ hb'
  clear e2 e02 hp npb
  clear hu' hb' kp
  cases ns with
  | nil =>
    rw [show (!(([] : List Int).map V.int).isEmpty) = false from rfl]
    repeat walk_at "ru"
    refine rd_ixC (n := 0) hu2 ?_
    repeat walk_at "ru"
    refine ⟨Nat.zero_le _, fun p hp => ?_⟩
    have npb : b ≠ p := fun z => by rw [← z, hb2] at hp; cases hp
    refine .inr ⟨b, p, [], rfl, rfl, .inl (.inl (by rw [upd_ne npb]; exact hb2)), Nat.zero_le _, .inl (.inl upd_same), fun H3 e3 => ?_⟩
    have e03 : Same H2 H3 := (Same.new hp).trans e3
    have kp3 := kp2.tr e03
    have hu3 := e03 _ _ hu2
    have hb3 := e03 _ _ hb2
    clear e3 e03 hp npb hu2 hb2 kp2
    rw [show (!([] : List V).isEmpty) = false from rfl]
    repeat walk_at "ru"
    refine rd_ixC (n := 2) hu3 ?_
    repeat walk_at "ru"
    refine ⟨u, _, 2, 2, rfl, rfl, hu3, by rfl, ?_⟩
    have kp4 := kp3.up (c := u) (x := .lst [.ref b, .int m, .int (c + 1)]) (.inl rfl)
    have hu4 : upd H3 u (.lst [.ref b, .int m, .int (c + 1)]) u = some (.lst [.ref b, .int m, .int (c + 1)]) := upd_same
    have hb4 : upd H3 u (.lst [.ref b, .int m, .int (c + 1)]) b = some (.lst (([] : List Int).map V.int)) := by rw [upd_ne hub.symm]; exact hb3
    show tSeq _ _ _ _ (upd H3 u (.lst [.ref b, .int m, .int (c + 1)]))
    generalize upd H3 u (.lst [.ref b, .int m, .int (c + 1)]) = H4 at kp4 hu4 hb4 ⊢
    repeat walk_at "ru"
    refine rd_ixC (n := 1) hu4 ?_
    repeat walk_at "ru"
    · refine rd_ixC (n := 2) hu4 ?_
      repeat walk_at "ru"
      · refine rd_ixC (n := 2) hu4 ?_
        repeat walk_at "ru"
        · exact k _ [] _ _ (Int.emod_nonneg _ (by omega)) (Int.emod_lt_of_pos _ ht) kp4 hu4 hb4 (Nat.zero_le _)
        all_goals first
          | exact ht
          | walk_at "sd"
          | exact div_of (b := 17) (by decide) (by decide)
          | exact mul_of (a := 62) (b := 62) (by omega) (by omega)
      all_goals first
        | walk_at "sd"
        | exact mul_of (a := 62) (b := 62) (by omega) (by omega)
    all_goals walk_at "sd"
  | cons a ns =>
    rw [show (!((a :: ns).map V.int).isEmpty) = true from rfl]
    repeat walk_at "ru"
    refine rd_ixC (n := 0) hu2 ?_
    repeat walk_at "ru"
    refine rd_ixC (n := 0) hb2 ?_
    repeat walk_at "ru"
    refine ite_dec (fun ha => ?_) (fun ha => ?_)
    · refine ⟨fun σ' H'' => ∃ n', n' < (a :: ns).length ∧ ∃ ns2 : List Int, n' = ns2.length ∧ σ' = [some (.ref u), some (.int t), none, none] ∧ Kp H H'' u b ∧ H'' u = some (.lst [.ref b, .int m, .int c]) ∧ H'' b = some (.lst (ns2.map V.int)) ∧ ns2.length ≤ sizeLine, fun _ _ h => h, ?_⟩
      repeat walk_at "ru"
      refine rd_ixC (n := 0) hu2 ?_
      refine ⟨.inl ⟨rfl, _, .inl (.inl hb2)⟩, ?_⟩
      repeat walk_at "ru"
      refine ⟨b, (a :: ns).map V.int, 0, 0, .int a, rfl, rfl, hb2, by decide, by decide, (ixN_seq ixN0).1, rfl, ?_⟩
      refine ⟨ns.length, Nat.lt_succ_self _, ns, rfl, rfl, kp2.up (.inr rfl), by rw [upd_ne hub]; exact hu2, upd_same, Nat.le_of_succ_le hz'⟩
    · repeat walk_at "ru"
      refine rd_ixC (n := 0) hu2 ?_
      repeat walk_at "ru"
      refine ⟨Nat.zero_le _, fun p hp => ?_⟩
      have npb : b ≠ p := fun z => by rw [← z, hb2] at hp; cases hp
      refine .inr ⟨b, p, (a :: ns).map V.int, rfl, rfl, .inl (.inl (by rw [upd_ne npb]; exact hb2)), by rw [List.length_map]; exact hz', .inl (.inl upd_same), fun H3 e3 => ?_⟩
      have e03 : Same H2 H3 := (Same.new hp).trans e3
      have kp3 := kp2.tr e03
      have hu3 := e03 _ _ hu2
      have hb3 := e03 _ _ hb2
      clear e3 e03 hp npb hu2 hb2 kp2
      rw [show (!((a :: ns).map V.int).isEmpty) = true from rfl]
      repeat walk_at "ru"
      refine rd_ixC (n := 0) hu3 ?_
      repeat walk_at "ru"
      refine rd_ixC (n := 0) hb3 ?_
      repeat walk_at "ru"
      · refine rd_ixC (n := 0) hu3 ?_
        repeat walk_at "ru"
        refine ⟨b, _, 0, 0, rfl, rfl, hb3, ixN0, ?_⟩
        repeat walk_at "ru"
        · refine k _ (a.fdiv t :: ns) _ _ (Int.emod_nonneg _ (by omega)) (Int.emod_lt_of_pos _ ht) (kp3.up (.inr rfl)) (by rw [upd_ne hub]; exact hu3) upd_same hz'
        · exact ht
      · exact div_of (b := 10) (by omega) (by omega)
))
def PuB (b : Addr) (m : Int) (xs : List V) : Prop := ∃ c : Int, xs = [.ref b, .int m, .int c]
def Pi (xs : List V) : Prop := ∃ ns : List Int, xs = ns.map V.int ∧ ns.length ≤ sizeLine
def Reel (H : Hp) (v : V) : Prop := ∃ (u b : Addr) (m : Int), v = .ref u ∧ u ≠ b ∧ H u = some (UrnO u (PuB b m)) ∧ H b = some (UrnO b Pi)
theorem Reel.up {H H' : Hp} {v : V} (e : Same H H') (h : Reel H v) : Reel H' v := @NI.run _ (by exact NI.carry : NI.Carry (by
  obtain ⟨u, b, m, h1, h2, h3, h4⟩ := h
  exact ⟨u, b, m, h1, h2, e _ _ h3, e _ _ h4⟩
))
def sp_turn1 : Sp := sp2 fun x y H Q _ => ∃ (u b : Addr) (ns : List Int) (m t : Int), x = .ref u ∧ u ≠ b ∧ H u = some (UrnO u (PuB b m)) ∧ H b = some (.lst (ns.map V.int)) ∧ ns.length ≤ sizeLine ∧ y = .int t ∧ 0 < t ∧ t ≤ 1000 ∧
  ∀ (k : Int) (ns' : List Int) H', 0 ≤ k → k < t → (∀ p o, H p = some o → p ≠ b → H' p = some o) → H' b = some (.lst (ns'.map V.int)) → ns'.length ≤ sizeLine → Q (.int k) H'
def sp_turn : Sp := sp2 fun x y H Q _ => ∃ t : Int, Reel H x ∧ y = .int t ∧ 0 < t ∧ t ≤ 1000 ∧ ∀ (k : Int) H', 0 ≤ k → k < t → Same H H' → Q (.int k) H'
theorem cal_turn (T : Tx P K mg) : Cal P w K mg base 10 "_law_turn" sp_turn := @NI.run _ (by exact NI.carry : NI.Carry (by
  obtain ⟨f, h1, h2, F⟩ := cal_w_turn (P := P) (w := w) (base := base) T
  have F1 : FnR P w K mg base (CXW P w) 10 f sp_turn1 := fnR_urnP F fun vs H Q E h => by
    obtain ⟨x, y, rfl, u, b, ns, m, t, rfl, hub, hu, hb, hz, rfl, ht, ht2, k⟩ := h
    refine ⟨PuB b m, u, hu, ?_⟩
    rintro xs ⟨c, rfl⟩
    refine ⟨_, _, rfl, u, b, ns, m, c, t, rfl, hub, upd_same, by rw [upd_ne hub.symm]; exact hb, hz, rfl, ht, ht2, fun i ns' c' H' h0 h1 kp hu' hb' hz' => ⟨_, ⟨c', rfl⟩, hu', k i ns' _ h0 h1 (fun p o e n => ?_) (by rw [upd_ne hub.symm]; exact hb') hz'⟩⟩
    by_cases z : p = u
    · subst z
      rw [upd_same, ← e, hu]
    · rw [upd_ne z]
      exact kp p o (by rw [upd_ne z]; exact e) z n
  refine ⟨f, h1, h2, fnR_urnP F1 fun vs H Q E h => ?_⟩
  obtain ⟨x, y, rfl, t, ⟨u, b, m, rfl, hub, hu, hb⟩, rfl, ht, ht2, k⟩ := h
  refine ⟨Pi, b, hb, ?_⟩
  rintro xs ⟨ns, rfl, hz⟩
  refine ⟨_, _, rfl, u, b, ns, m, t, rfl, hub, by rw [upd_ne hub]; exact hu, upd_same, hz, rfl, ht, ht2, fun i ns' H' h0 h1 kp hb' hz' => ⟨_, ⟨ns', rfl, hz'⟩, hb', k i _ h0 h1 fun p o e => ?_⟩⟩
  by_cases z : p = b
  · subst z
    rw [upd_same, ← e, hb]
  · rw [upd_ne z]
    exact kp p o (by rw [upd_ne z]; exact e) z
))
theorem lcF_nameB {α β : Type} {R : Rl α} {S : Rl β} [Up R] [Up S] {J : It} {H1 : Hp} {as : List α} {tt : TT} {te : TE} {vs : List Nat} {σ : L2.St} {Q : VK} {i : Nat} (W : Wk J H1 R as) (hz : as.length ≤ sizeLine) (p : α → Bool) (f : α → β)
    (hd : ∀ D G acc, Same H1 G → G D = none → RAll S G acc ((as.filter p).map f) → Q (.ref D) (upd G D (.lst acc)))
    (ht : ∀ a G x, a ∈ as → Same H1 G → R G x a → ∀ Kt : Bool → Hp → Prop, Kt (p a) G → tt ((wipe σ vs).set i (some x)) G Kt)
    (hb : ∀ a G x, a ∈ as → p a = true → Same H1 G → R G x a → ∀ Kt : VK, (∀ y G', Same G G' → S G' y (f a) → Kt y G') → te ((wipe σ vs).set i (some x)) G Kt)
    (hw : ∀ v, wipe ((wipe σ vs).set i (some v)) vs = wipe σ vs := by intro _; rfl) : LcF J H1 (gName i) tt te vs σ Q := @NI.run _ (by exact NI.carry : NI.Carry (by
  intro D hD
  refine ⟨fun i m H => m = as.length - i ∧ i ≤ as.length ∧ ∃ G acc, H = upd G D (.lst acc) ∧ G D = none ∧ Same H1 G ∧ RAll S G acc (((as.take i).filter p).map f), ⟨as.length, by simp, Nat.zero_le _, H1, [], rfl, hD, Same.refl _, by rw [List.take_zero]; exact .nil⟩, ?_⟩
  rintro k m H ⟨rfl, hi, G, acc, rfl, hG, s, ra⟩
  have hla : acc.length ≤ k := by
    rw [ra.len, List.length_map]
    exact Nat.le_trans (List.length_filter_le _ _) (by rw [List.length_take]; omega)
  by_cases hlt : k < as.length
  · refine .inr ⟨W.go k _ (s.trans (Same.new hG)) hlt, fun H' => ∃ G' acc', H' = upd G' D (.lst acc') ∧ G' D = none ∧ Same H1 G' ∧ RAll S G' acc' (((as.take (k + 1)).filter p).map f), ?_, ?_⟩
    · rintro H' ⟨G', acc', e, h1, h2, h3⟩
      exact ⟨as.length - (k + 1), by omega, rfl, hlt, G', acc', e, h1, h2, h3⟩
    · intro x H' hy
      obtain ⟨G', s2, hG', eH, rx⟩ := W.yldD k G D _ x H' as[k] s hG (by simp [hlt]) hy
      subst eH
      have hm : as[k] ∈ as := List.getElem_mem hlt
      have et : as.take (k + 1) = as.take k ++ [as[k]] := by
        rw [List.take_succ]
        simp [hlt]
      refine gok_name _ (Same.new hG') _ ⟨hw x, ?_⟩
      refine ⟨D, acc, upd_same, ?_⟩
      rw [hid_upd hG']
      refine ht as[k] G' x hm (s.trans s2) rx _ fun hG2 => ?_
      by_cases hp : p as[k] = true
      · rw [hp]
        show (if true = true then _ else _)
        rw [if_pos rfl]
        refine ⟨D, acc, upd_same, ?_⟩
        rw [hid_upd hG']
        refine hb as[k] G' x hm hp (s.trans s2) rx _ fun y G2 s3 hy2 hG2 => ?_
        refine ⟨acc, upd_same, by omega, G2, acc ++ [y], ?_, hG2, (s.trans s2).trans s3, ?_⟩
        · rw [upd_upd]
        · rw [et, List.filter_append, List.map_append, List.filter_cons_of_pos hp]
          exact (ra.up (s2.trans s3)).snoc hy2
      · rw [show p as[k] = false from Bool.eq_false_iff.mpr hp]
        show (if false = true then _ else _)
        rw [if_neg (by decide)]
        refine ⟨G', acc, rfl, hG', s.trans s2, ?_⟩
        rw [et, List.filter_append, List.map_append, List.filter_cons_of_neg hp]
        simp only [List.filter_nil, List.map_nil, List.append_nil]
        exact ra.up s2
  · have e : k = as.length := by omega
    subst e
    refine .inl ⟨W.stop _ (s.trans (Same.new hG)), hd _ _ _ s hG ?_⟩
    rw [List.take_length] at ra
    exact ra
))
theorem rd_slSt {K : PySem.W.Frag} {te tl ts : TE} {σ : L2.St} {H : Hp} {Q : VK} (q : te σ H fun x H1 => tl σ H1 fun y H2 => ∃ i, y = .int i ∧ ts σ H2 fun z H3 => ∃ k, z = .int k ∧ 0 < k ∧ ∃ a xs, x = .ref a ∧ SqL K H3 a xs ∧ ∀ ys p, (∀ v ∈ ys, v ∈ xs) → ys.length ≤ xs.length → H3 p = none → Q (.ref p) (upd H3 p (.lst ys))) : tSlSt K te tl ts σ H Q := q
theorem sub_ints {ns : List Int} : ∀ {ys : List V}, (∀ v ∈ ys, v ∈ ns.map V.int) → ∃ zs : List Int, ys = zs.map V.int
  | [], _ => ⟨[], rfl⟩
  | y :: ys, h => by
    obtain ⟨zs, rfl⟩ := sub_ints fun v hv => h v (List.mem_cons_of_mem _ hv)
    obtain ⟨z, _, rfl⟩ := List.mem_map.mp (h y List.mem_cons_self)
    exact ⟨z :: zs, rfl⟩
def sp_w_reel (K : PySem.W.Frag) : Sp := sp3 fun x y z H Q _ => ∃ (ns : List Int) (i c : Int), RL K RI H x ns ∧ y = .int i ∧ z = .int c ∧ 0 < c ∧ ns.length ≤ 1000 ∧
  ∀ u b (m : Int) (ns' : List Int) H', Same H H' → H u = none → H b = none → u ≠ b → H' u = some (.lst [.ref b, .int m, .int 0]) → H' b = some (.lst (ns'.map V.int)) → ns'.length ≤ sizeLine → Q (.ref u) H'
abbrev n_w_reel : List Str := ["_law_script", "_law_at", "_law_cases", "_law_cells", "_law_mixed", "_law_cell", "_law_part", "_law_great", "_law_one"]
theorem sc_w_reel : FnScope n_w_reel ["_law_script", "_law_at", "_law_cases"] (defScope s_w_reel) := ⟨rfl, rfl, rfl, by decide +kernel, rfl, by decide +kernel, by decide +kernel⟩
theorem cal_w_reel (T : Tx P K mg) : Cal P w K mg base 1 "_law_reel" (sp_w_reel K) := @NI.run _ (by exact NI.carry : NI.Carry (by
  refine cal_of (k := 0) T.G_w_reel T.D_w_reel sc_w_reel (fun _ _ _ _ _ _ us hl => match us, hl with | [_, _, _], _ => rfl) (fun vs H Q E h => ?_) (fun cdv A outer s H vs Q E hr h => ?_)
  · obtain ⟨v0, v1, v2, rfl, _⟩ := h
    rfl
  obtain ⟨v0, v1, v2, rfl, h⟩ := h
  refine ⟨_, pss_cons (ps_par (i := 3) (j := 4) (by rfl) sc_w_reel.nd rfl rfl (by decide) rfl rfl (pa_cons (pe_slSt (pv 0) (pv 1) (pv 2)) (pa_cons (pe_op op_add (pe_op op_mul pe_int (pv 1)) pe_int) pa_nil)) (by rfl))
      (pss_cons (ps_for (passes_of rfl) rfl (kPiL K (pv 3)) (pg_name (i := 5) sc_w_reel.nd rfl (by first | exact Or.inl rfl | exact Or.inr rfl))
        (pss_cons (ps_set (i := 6) sc_w_reel.nd rfl (by first | exact Or.inl rfl | exact Or.inr rfl) (pe_op op_add (pe_op op_mul (pe_op op_mod (pe_callTy bi_int1 (by rfl) T.N_int (by decide +kernel) (pa_cons (pe_callB bi_abs (by rfl) T.N_abs (by decide +kernel) (pa_cons (pv 5) pa_nil)) pa_nil)) (pe_op op_pow pe_int pe_int)) pe_int) (pe_callTy bi_int1 (by rfl) T.N_int (by decide +kernel) (pa_cons (pe_cmpR op_lt (pv 5) pe_int (nomark _)) pa_nil))))
      (pss_one (ps_set (i := 4) sc_w_reel.nd rfl (by first | exact Or.inl rfl | exact Or.inr rfl) (pe_op op_mod (pe_callTy bi_int1 (by rfl) T.N_int (by decide +kernel) (pa_cons (pe_op op_add (pe_op op_add (pe_op op_mul (pv 4) pe_int) (pe_op op_mul (pv 6) pe_int)) pe_int) pa_nil)) pe_int)))))
      (pss_cons (ps_setLc (i := 7) (own := [("_law_cell", 5)]) (g := gName 5) (tt := tYes) (by rfl) sc_w_reel.nd rfl rfl (sw_true rfl rfl rfl (by decide +kernel)) (kPiL K (pv 3)) (blkOk_by (own := [("_law_cell", 5)]) (N := n_w_reel) (by rfl)) (fun _ _ _ _ _ => pg_name (i := 5) sc_w_reel.nd rfl (by first | exact Or.inl rfl | exact Or.inr rfl)) (fun _ _ _ _ _ => pts_nil) (fun _ _ _ _ _ => pe_hid (pe_op op_sub (pe_op op_mod (pe_callTy bi_int1 (by rfl) T.N_int (by decide +kernel) (pa_cons (pe_callB bi_abs (by rfl) T.N_abs (by decide +kernel) (pa_cons (pv 5) pa_nil)) pa_nil)) (pe_op op_powW (pe_op op_pow pe_int pe_int) pe_int)) (pe_op op_pow pe_int pe_int))))
      (pss_one (ps_ret (pe_lst (pa_cons (pe_lc (own := [("_law_one", 8)]) (g := gName 8) (by rfl) sc_w_reel.nd (kPiL K (pv 7)) (blkOk_by (own := [("_law_one", 8)]) (N := n_w_reel) (by rfl)) (fun _ _ _ _ _ => pg_name (i := 8) sc_w_reel.nd rfl (by first | exact Or.inl rfl | exact Or.inr rfl)) (fun _ _ _ _ _ => pts_hid (pts_one (pt_cmpR op_gt (pv 8) pe_int (nomark _)))) (fun _ _ _ _ _ => pe_hid (pv 8))) (pa_cons (pv 4) (pa_cons pe_int pa_nil)))))))), ?_⟩
  obtain ⟨ns, i, c, hx, rfl, rfl, hc, hn, k⟩ := h
  repeat walk_at "ru"
  refine rd_slSt ?_
  repeat walk_at "ru"
  obtain ⟨pa, xs, rfl, sq, ra, _⟩ := id hx
  obtain rfl := RAll.of_ints ra
  refine ⟨hc, pa, _, rfl, sq, fun ys p hys hyl hp => ?_⟩
  obtain ⟨zs, rfl⟩ := sub_ints hys
  rw [List.length_map, List.length_map] at hyl
  have e1 : Same H (upd H p (.lst (zs.map V.int))) := Same.new hp
  have hcl : RL K RI (upd H p (.lst (zs.map V.int))) (.ref p) zs := RL.mk hp RAll.ints (by rw [List.length_map]; have := (by decide : 1000 ≤ sizeLine); omega)
  generalize upd H p (.lst (zs.map V.int)) = H1 at e1 hcl ⊢
  repeat walk_at "ru"
  · refine forL hcl fun J W hz => ?_
    refine forK W (fun j σ' H' => Same H1 H' ∧ ∃ (m : Int) (x5 x6 : Option V), σ' = [some (.ref pa), some (.int i), some (.int c), some (.ref p), some (.int m), x5, x6, none, none]) ⟨Same.refl _, _, none, none, rfl⟩ (fun j σ' H' h => h.1) ?_ ?_
    · rintro j σ' H2 z x H3 hz3 ⟨e2, m, x5, x6, rfl⟩ e3 e13 hx
      obtain rfl : x = V.int z := hx
      repeat walk_at "ru"
      · exact ⟨e13, _, _, _, rfl⟩
      all_goals first | walk_at "sd" | walk_at "side" | decide +kernel
    · rintro σ' H2 ⟨e2, m, x5, x6, rfl⟩
      repeat walk_at "ru"
      refine lcL (Up.up e2 hcl) fun J2 W2 hz2 => lcK_name (S := RI) (K := K) W2 hz2 (fun z => (z.natAbs : Int) % ((10 : Int) ^ Int.toNat 60) ^ Int.toNat 10 - 10 ^ Int.toNat 18) (fun v4 H4 e4 hv4 => ?_) (fun z G x hzm e4 hx2 Kt hk2 => ?_)
      · repeat walk_at "ru"
        refine lcLf hv4 fun J5 W5 hz5 => lcF_nameB (S := RI) W5 hz5 (fun z => decide (z > 0)) (fun z => z) (fun D G acc e5 hD hacc => ?_) (fun z G x hzm e5 hx5 Kt hk5 => ?_) (fun z G x hzm hp e5 hx5 Kt hk5 => ?_)
        · have e01 := (e1.trans e2).trans e4
          have hDn : upd G D (.lst acc) D = some (.lst acc) := upd_same
          have e6 : Same H (upd G D (.lst acc)) := (e01.trans e5).trans (Same.new hD)
          have hD0 : H D = none := by
            cases z : H D with
            | none => rfl
            | some o =>
              have := (e01.trans e5) _ _ z
              rw [this] at hD
              cases hD
          obtain rfl := RAll.of_ints hacc
          have hlen : ((List.map (fun z => (z.natAbs : Int) % ((10 : Int) ^ Int.toNat 60) ^ Int.toNat 10 - 10 ^ Int.toNat 18) zs).filter fun z => decide (z > 0)).length ≤ sizeLine := Nat.le_trans (List.length_filter_le _ _) hz5
          generalize upd G D _ = H6 at hDn e6 ⊢
          rw [List.map_id'] at hDn
          repeat walk_at "ru"
          refine ⟨by show 3 ≤ sizeLine; decide, fun u hu => ?_⟩
          have hub : u ≠ D := fun z => by rw [z, hDn] at hu; cases hu
          have hu0 : H u = none := by
            cases z : H u with
            | none => rfl
            | some o =>
              rw [e6 _ _ z] at hu
              cases hu
          exact k u D m _ _ (e6.trans (Same.new hu)) hu0 hD0 hub upd_same (by rw [upd_ne hub.symm]; exact hDn) hlen
        · obtain rfl : x = V.int z := hx5
          repeat walk_at "ru"
          exact hk5
        · obtain rfl : x = V.int z := hx5
          repeat walk_at "ru"
          exact hk5 _ _ (Same.refl _) rfl
      · obtain rfl : x = V.int z := hx2
        repeat walk_at "ru"
        · exact hk2 _ _ (Same.refl _) rfl
        all_goals first | walk_at "sd" | walk_at "side" | decide +kernel
  · walk_at "sd"
))
def sp_reel1 (K : PySem.W.Frag) : Sp := sp3 fun x y z H Q _ => ∃ (ns : List Int) (i c : Int), RL K RI H x ns ∧ y = .int i ∧ z = .int c ∧ 0 < c ∧ ns.length ≤ 1000 ∧
  ∀ u b (m : Int) (ns' : List Int) H', Same H H' → H b = none → u ≠ b → H' u = some (UrnO u (PuB b m)) → H' b = some (.lst (ns'.map V.int)) → ns'.length ≤ sizeLine → Q (.ref u) H'
def sp_reel (K : PySem.W.Frag) : Sp := sp3 fun x y z H Q _ => ∃ (ns : List Int) (i c : Int), RL K RI H x ns ∧ y = .int i ∧ z = .int c ∧ 0 < c ∧ ns.length ≤ 1000 ∧ ∀ v H', Same H H' → Reel H' v → Q v H'
theorem cal_reel (T : Tx P K mg) : Cal P w K mg base 1 "_law_reel" (sp_reel K) := @NI.run _ (by exact NI.carry : NI.Carry (by
  obtain ⟨f, h1, h2, F⟩ := cal_w_reel (P := P) (w := w) (base := base) T
  have F1 : FnR P w K mg base (CXW P w) 1 f (sp_reel1 K) := fnR_madeP F fun vs H Q E h => by
    obtain ⟨x, y, z, rfl, ns, i, c, hx, rfl, rfl, hc, hn, k⟩ := h
    refine ⟨_, _, _, rfl, ns, i, c, hx, rfl, rfl, hc, hn, fun u b m ns' H' e hu hb hub hu' hb' hz => ⟨PuB b m, u, _, hu', ⟨0, rfl⟩, hu, k u b m ns' _ (fun p o q => ?_) hb hub upd_same (by rw [upd_ne hub.symm]; exact hb') hz⟩⟩
    rw [upd_ne (ne_of_none q hu)]
    exact e p o q
  refine ⟨f, h1, h2, fnR_madeP F1 fun vs H Q E h => ?_⟩
  obtain ⟨x, y, z, rfl, ns, i, c, hx, rfl, rfl, hc, hn, k⟩ := h
  refine ⟨_, _, _, rfl, ns, i, c, hx, rfl, rfl, hc, hn, fun u b m ns' H' e hb hub hu' hb' hz => ⟨Pi, b, _, hb', ⟨ns', rfl, hz⟩, hb, k _ _ (fun p o q => ?_) ⟨u, b, m, rfl, hub, by rw [upd_ne hub]; exact hu', upd_same⟩⟩⟩
  rw [upd_ne (ne_of_none q hb)]
  exact e p o q
))
def sp_w_any (K : PySem.W.Frag) : Sp := sp2 fun x y H Q _ => ∃ (α : Type) (R : Rl α) (_ : Up R) (as : List α), Reel H x ∧ RL K R H y as ∧ as ≠ [] ∧ as.length ≤ 1000 ∧ ∀ a v H', a ∈ as → Same H H' → R H' v a → Q v H'
abbrev n_w_any : List Str := ["_law_reel_here", "_law_items"]
theorem sc_w_any : FnScope n_w_any ["_law_reel_here", "_law_items"] (defScope s_w_any) := ⟨rfl, rfl, rfl, by decide +kernel, rfl, by decide +kernel, by decide +kernel⟩
theorem cal_w_any (T : Tx P K mg) : Cal P w K mg base 11 "_law_any" (sp_w_any K) := @NI.run _ (by exact NI.carry : NI.Carry (by
  refine cal_of (k := 10) T.G_w_any T.D_w_any sc_w_any (fun _ _ _ _ _ _ us hl => match us, hl with | [_, _], _ => rfl) (fun vs H Q E h => ?_) (fun cdv A outer s H vs Q E hr h => ?_)
  · obtain ⟨v0, v1, rfl, _⟩ := h
    rfl
  obtain ⟨v0, v1, rfl, h⟩ := h
  refine ⟨_, pss_one (ps_ret (pe_ix (kIxL K) (pv 1) (pc (cal_turn T) hr (pa_cons (pv 0) (pa_cons (pe_callB (kLen K) (by rfl) T.N_len (by decide +kernel) (pa_cons (pv 1) pa_nil)) pa_nil))) (fun _ _ => rfl))), ?_⟩
  obtain ⟨α, R, _, as, hx, hy, hne, hn, k⟩ := h
  repeat walk_at "ru"
  refine rd_lenL hy ?_
  have hl : 0 < as.length := List.length_pos_iff.mpr hne
  refine ⟨_, _, rfl, _, hx, rfl, by omega, by omega, fun i H' h0 h1 e => ?_⟩
  have hi : i.toNat < as.length := by omega
  repeat walk_at "ru"
  exact rd_ixL (n := i.toNat) (a := as[i.toNat]) (Up.up e hy) (List.getElem?_eq_getElem hi) (fun w hw => k _ w H' (List.getElem_mem hi) e hw) (by omega)
))
def POOLN : List Str := ["a", "b", "c", "d", "x1", "yy", "zed", "k"]
structure NsOk (ns : List Str) (m : Nat) : Prop where
  len : ns.length = m
  nd : ns.Nodup
  pool : ∀ z ∈ ns, z ∈ POOLN
def nmAt (f b i : Nat) : Str := POOLN.getD ((f + b * i) % 8) ""
theorem nmAt_ok : ∀ f : Fin 8, ∀ b ∈ [1, 3, 5, 7], ∀ m : Fin 7, ((List.range m.1).map (nmAt f.1 b)).Nodup := @NI.run _ (by exact NI.carry : NI.Carry (by decide +kernel
))
theorem nmAt_in (f b i : Nat) : nmAt f b i ∈ POOLN := @NI.run _ (by exact NI.carry : NI.Carry (by
  unfold nmAt
  have h : (f + b * i) % 8 < POOLN.length := Nat.mod_lt _ (by decide)
  rw [List.getD_eq_getElem?_getD, List.getElem?_eq_getElem h]
  exact List.getElem_mem h
))
theorem rgI_nat {n : Nat} : rgI 0 n = (List.range n).map fun i => ((i : Nat) : Int) := @NI.run _ (by exact NI.carry : NI.Carry (by
  unfold rgI
  refine List.map_congr_left fun i _ => ?_
  omega
))
def sp_w_names (K : PySem.W.Frag) : Sp := sp2 fun x y H Q _ => ∃ m : Nat, Reel H x ∧ y = .int (m : Int) ∧ m ≤ 6 ∧ ∀ v H' ns, Same H H' → NsOk ns m → RL K RS H' v ns → Q v H'
abbrev n_w_names : List Str := ["_law_reel_here", "_law_many", "_law_pool", "_law_first", "_law_by", "_law_place"]
theorem sc_w_names : FnScope n_w_names ["_law_reel_here", "_law_many"] (defScope s_w_names) := ⟨rfl, rfl, rfl, by decide +kernel, rfl, by decide +kernel, by decide +kernel⟩
theorem cal_w_names (T : Tx P K mg) : Cal P w K mg base 12 "_law_names" (sp_w_names K) := @NI.run _ (by exact NI.carry : NI.Carry (by
  refine cal_of (k := 11) T.G_w_names T.D_w_names sc_w_names (fun _ _ _ _ _ _ us hl => match us, hl with | [_, _], _ => rfl) (fun vs H Q E h => ?_) (fun cdv A outer s H vs Q E hr h => ?_)
  · obtain ⟨v0, v1, rfl, _⟩ := h
    rfl
  obtain ⟨v0, v1, rfl, h⟩ := h
  refine ⟨_, pss_cons (ps_asg (pe_tup (pa_cons (pe_lst (pa_cons pe_str (pa_cons pe_str (pa_cons pe_str (pa_cons pe_str (pa_cons pe_str (pa_cons pe_str (pa_cons pe_str (pa_cons pe_str pa_nil))))))))) (pa_cons (pc (cal_turn T) hr (pa_cons (pv 0) (pa_cons pe_int pa_nil))) pa_nil))) (kTup K (by rfl) (pgs_cons (pg_name (i := 2) sc_w_names.nd rfl (by first | exact Or.inl rfl | exact Or.inr rfl)) (pgs_cons (pg_name (i := 3) sc_w_names.nd rfl (by first | exact Or.inl rfl | exact Or.inr rfl)) pgs_nil))))
      (pss_cons (ps_set (i := 4) sc_w_names.nd rfl (by first | exact Or.inl rfl | exact Or.inr rfl) (pc (cal_w_any T) hr (pa_cons (pv 0) (pa_cons (pe_lst (pa_cons pe_int (pa_cons pe_int (pa_cons pe_int (pa_cons pe_int pa_nil))))) pa_nil))))
      (pss_one (ps_ret (pe_lc (own := [("_law_place", 5)]) (g := gName 5) (tt := tYes) (by rfl) sc_w_names.nd (pi_range1 rfl T.N_range (pa_cons (pv 1) pa_nil)) (blkOk_by (own := [("_law_place", 5)]) (N := n_w_names) (by rfl)) (fun _ _ _ _ _ => pg_name (i := 5) sc_w_names.nd rfl (by first | exact Or.inl rfl | exact Or.inr rfl)) (fun _ _ _ _ _ => pts_nil) (fun _ _ _ _ _ => pe_hid (pe_ix (kIxL K) (pv 2) (pe_op op_mod (pe_op op_add (pv 3) (pe_op op_mulW (pv 4) (pv 5))) pe_int) (fun _ _ => rfl))))))), ?_⟩
  obtain ⟨m, hx, rfl, hm, k⟩ := h
  repeat walk_at "ru"
  refine ⟨by show 8 ≤ sizeLine; decide, fun p hp => ?_⟩
  have e1 : Same H (upd H p (.lst [V.str "a", V.str "b", V.str "c", V.str "d", V.str "x1", V.str "yy", V.str "zed", V.str "k"])) := Same.new hp
  have hpl : RL K RS (upd H p (.lst [V.str "a", V.str "b", V.str "c", V.str "d", V.str "x1", V.str "yy", V.str "zed", V.str "k"])) (.ref p) POOLN := RL.mk hp (RAll.strs (ns := POOLN)) (by show 8 ≤ sizeLine; decide)
  generalize upd H p (.lst [V.str "a", V.str "b", V.str "c", V.str "d", V.str "x1", V.str "yy", V.str "zed", V.str "k"]) = H1 at e1 hpl ⊢
  repeat walk_at "ru"
  refine ⟨_, _, rfl, _, Reel.up e1 hx, rfl, by omega, by omega, fun f H2 f0 f1 e2 => ?_⟩
  obtain ⟨f, rfl⟩ : ∃ g : Nat, f = (g : Int) := ⟨f.toNat, by omega⟩
  repeat walk_at "ru"
  refine ⟨by show 2 ≤ sizeLine; decide, fun q hq => ?_⟩
  repeat walk_at "ru"
  refine gok_pair (.inl (.inl upd_same)) gok_name gok_name _ (Same.refl _) _ ?_
  have e3 : Same H2 (upd H2 q (.tup [.ref p, .int (f : Int)])) := Same.new hq
  generalize upd H2 q (.tup [.ref p, .int (f : Int)]) = H3 at e3 ⊢
  have e03 := (e1.trans e2).trans e3
  repeat walk_at "ru"
  refine ⟨by show 4 ≤ sizeLine; decide, fun r hr2 => ?_⟩
  have e4 : Same H3 (upd H3 r (.lst [.int 1, .int 3, .int 5, .int 7])) := Same.new hr2
  have hbl : RL K RI (upd H3 r (.lst [.int 1, .int 3, .int 5, .int 7])) (.ref r) [1, 3, 5, 7] := RL.mk hr2 (RAll.ints (ns := [1, 3, 5, 7])) (by show 4 ≤ sizeLine; decide)
  generalize upd H3 r (.lst [.int 1, .int 3, .int 5, .int 7]) = H4 at e4 hbl ⊢
  have e04 := e03.trans e4
  repeat walk_at "ru"
  refine ⟨_, _, rfl, Int, RI, inferInstance, [1, 3, 5, 7], Reel.up e04 hx, hbl, by decide, by decide, fun b v H5 hb e5 hv => ?_⟩
  obtain rfl : v = V.int b := hv
  obtain ⟨b, rfl⟩ : ∃ g : Nat, b = (g : Int) := ⟨b.toNat, by
    have : 0 ≤ b := by
      simp at hb
      omega
    omega⟩
  have hb2 : b ∈ [1, 3, 5, 7] := by
    simp at hb ⊢
    omega
  have hpl5 := Up.up (R := RL K RS) (((e2.trans e3).trans e4).trans e5) hpl
  have e05 := e04.trans e5
  repeat walk_at "ru"
  refine lcR1 (by omega) (fun J W hz => lcK_name (S := RS) (K := K) W hz (fun i : Int => nmAt f b i.toNat) (fun v6 H6 e6 hv6 => ?_) (fun i G x him e6 hx2 Kt hk2 => ?_)) (by omega)
  · rw [show (m : Int).toNat = m from Int.toNat_natCast m, rgI_nat, List.map_map] at hv6
    have ef : ((fun i : Int => nmAt f b i.toNat) ∘ fun i : Nat => ((i : Nat) : Int)) = nmAt f b := by
      funext i
      simp only [Function.comp, Int.toNat_natCast]
    rw [ef] at hv6
    refine k _ _ _ (e05.trans e6) ⟨by simp, nmAt_ok ⟨f, by omega⟩ b hb2 ⟨m, by omega⟩, fun z hz => ?_⟩ hv6
    obtain ⟨i, _, rfl⟩ := List.mem_map.mp hz
    exact nmAt_in f b i
  · obtain rfl : x = V.int i := hx2
    obtain ⟨i0, i1⟩ := rgI_mem.mp him
    obtain ⟨i, rfl⟩ : ∃ g : Nat, i = (g : Int) := ⟨i.toNat, by omega⟩
    have hb7 : b ≤ 7 := by
      simp at hb2
      omega
    have bn : ((b : Nat) : Int).natAbs < 2 ^ 4 := by rw [Int.natAbs_natCast]; omega
    have inn : ((i : Nat) : Int).natAbs < 2 ^ 4 := by rw [Int.natAbs_natCast]; omega
    repeat walk_at "ru"
    · refine rd_ixL (n := (f + b * i) % 8) (a := nmAt f b i) (Up.up e6 hpl5) ?_ (fun w hw => hk2 w _ (Same.refl _) hw) (by simp)
      unfold nmAt
      have h : (f + b * i) % 8 < POOLN.length := Nat.mod_lt _ (by decide)
      rw [List.getD_eq_getElem?_getD, List.getElem?_eq_getElem h]
      rfl
    · decide
    · exact mul_of (a := 4) (b := 4) bn inn
))
def LVN : List Str := ["low", "mid", "high", "a1", "b", "x9", "0", "z2345678"]
def lvAt (f i : Nat) : Str := LVN.getD ((f + 3 * i) % 8) ""
theorem lvAt_ok : ∀ f : Fin 8, ∀ m : Fin 4, ((List.range (2 + m.1)).map (lvAt f.1)).Nodup ∧ ((List.range (2 + m.1)).map (lvAt f.1)).all runB = true := @NI.run _ (by exact NI.carry : NI.Carry (by decide +kernel
))
structure LvD (ls : List Str) : Prop where
  ok : LvOk ls
  five : ls.length ≤ 5
  noq : ("q" : Str) ∉ ls
theorem lvAt_noq : ∀ f : Fin 8, ∀ m : Fin 4, ("q" : Str) ∉ ((List.range (2 + m.1)).map (lvAt f.1)) := @NI.run _ (by exact NI.carry : NI.Carry (by decide +kernel
))
def sp_w_levels (K : PySem.W.Frag) : Sp := sp1 fun x H Q _ => Reel H x ∧ ∀ v H' ls, Same H H' → LvD ls → RT K RS H' v ls → Q v H'
abbrev n_w_levels : List Str := ["_law_reel_here", "_law_pool", "_law_first", "_law_place"]
theorem sc_w_levels : FnScope n_w_levels ["_law_reel_here"] (defScope s_w_levels) := ⟨rfl, rfl, rfl, by decide +kernel, rfl, by decide +kernel, by decide +kernel⟩
theorem cal_w_levels (T : Tx P K mg) : Cal P w K mg base 11 "_law_levels" (sp_w_levels K) := @NI.run _ (by exact NI.carry : NI.Carry (by
  refine cal_of (k := 10) T.G_w_levels T.D_w_levels sc_w_levels (fun _ _ _ _ _ _ us hl => match us, hl with | [_], _ => rfl) (fun vs H Q E h => ?_) (fun cdv A outer s H vs Q E hr h => ?_)
  · obtain ⟨v0, rfl, _⟩ := h
    rfl
  obtain ⟨v0, rfl, h⟩ := h
  refine ⟨_, pss_cons (ps_asg (pe_tup (pa_cons (pe_lst (pa_cons pe_str (pa_cons pe_str (pa_cons pe_str (pa_cons pe_str (pa_cons pe_str (pa_cons pe_str (pa_cons pe_str (pa_cons pe_str pa_nil))))))))) (pa_cons (pc (cal_turn T) hr (pa_cons (pv 0) (pa_cons pe_int pa_nil))) pa_nil))) (kTup K (by rfl) (pgs_cons (pg_name (i := 1) sc_w_levels.nd rfl (by first | exact Or.inl rfl | exact Or.inr rfl)) (pgs_cons (pg_name (i := 2) sc_w_levels.nd rfl (by first | exact Or.inl rfl | exact Or.inr rfl)) pgs_nil))))
      (pss_one (ps_ret (pe_callTy (kTuple K) (by rfl) T.N_tuple (by decide +kernel) (pa_cons (pe_lc (own := [("_law_place", 3)]) (g := gName 3) (tt := tYes) (by rfl) sc_w_levels.nd (pi_range1 rfl T.N_range (pa_cons (pe_op op_add pe_int (pc (cal_turn T) hr (pa_cons (pv 0) (pa_cons pe_int pa_nil)))) pa_nil)) (blkOk_by (own := [("_law_place", 3)]) (N := n_w_levels) (by rfl)) (fun _ _ _ _ _ => pg_name (i := 3) sc_w_levels.nd rfl (by first | exact Or.inl rfl | exact Or.inr rfl)) (fun _ _ _ _ _ => pts_nil) (fun _ _ _ _ _ => pe_hid (pe_ix (kIxL K) (pv 1) (pe_op op_mod (pe_op op_add (pv 2) (pe_op op_mul pe_int (pv 3))) pe_int) (fun _ _ => rfl)))) pa_nil)))), ?_⟩
  obtain ⟨hx, k⟩ := h
  repeat walk_at "ru"
  refine ⟨by show 8 ≤ sizeLine; decide, fun p hp => ?_⟩
  have e1 : Same H (upd H p (.lst [V.str "low", V.str "mid", V.str "high", V.str "a1", V.str "b", V.str "x9", V.str "0", V.str "z2345678"])) := Same.new hp
  have hpl : RL K RS (upd H p (.lst [V.str "low", V.str "mid", V.str "high", V.str "a1", V.str "b", V.str "x9", V.str "0", V.str "z2345678"])) (.ref p) LVN := RL.mk hp (RAll.strs (ns := LVN)) (by show 8 ≤ sizeLine; decide)
  generalize upd H p (.lst [V.str "low", V.str "mid", V.str "high", V.str "a1", V.str "b", V.str "x9", V.str "0", V.str "z2345678"]) = H1 at e1 hpl ⊢
  repeat walk_at "ru"
  refine ⟨_, _, rfl, _, Reel.up e1 hx, rfl, by omega, by omega, fun f H2 f0 f1 e2 => ?_⟩
  obtain ⟨f, rfl⟩ : ∃ g : Nat, f = (g : Int) := ⟨f.toNat, by omega⟩
  repeat walk_at "ru"
  refine ⟨by show 2 ≤ sizeLine; decide, fun q hq => ?_⟩
  repeat walk_at "ru"
  refine gok_pair (.inl (.inl upd_same)) gok_name gok_name _ (Same.refl _) _ ?_
  have e3 : Same H2 (upd H2 q (.tup [.ref p, .int (f : Int)])) := Same.new hq
  generalize upd H2 q (.tup [.ref p, .int (f : Int)]) = H3 at e3 ⊢
  have e03 := (e1.trans e2).trans e3
  repeat walk_at "ru"
  refine ⟨_, _, rfl, _, Reel.up e03 hx, rfl, by omega, by omega, fun m H5 m0 m1 e5 => ?_⟩
  obtain ⟨m, rfl⟩ : ∃ g : Nat, m = (g : Int) := ⟨m.toNat, by omega⟩
  have hpl5 := Up.up (R := RL K RS) ((e2.trans e3).trans e5) hpl
  have e05 := e03.trans e5
  repeat walk_at "ru"
  refine lcR1 (by omega) (fun J W hz => lcK_name (S := RS) (K := K) W hz (fun i : Int => lvAt f i.toNat) (fun v6 H6 e6 hv6 => ?_) (fun i G x him e6 hx2 Kt hk2 => ?_)) (by omega)
  · rw [show (2 + (m : Int)).toNat = 2 + m by omega, rgI_nat, List.map_map] at hv6
    have ef : ((fun i : Int => lvAt f i.toNat) ∘ fun i : Nat => ((i : Nat) : Int)) = lvAt f := by
      funext i
      simp only [Function.comp, Int.toNat_natCast]
    rw [ef] at hv6
    repeat walk_at "ru"
    obtain ⟨o1, o2⟩ := lvAt_ok ⟨f, by omega⟩ ⟨m, by omega⟩
    have o3 := lvAt_noq ⟨f, by omega⟩ ⟨m, by omega⟩
    refine rd_tupleL hv6 fun w9 H9 e9 hw9 => k _ _ _ ((e05.trans e6).trans e9) ⟨⟨by simp, by simp; omega, fun z hz => List.all_eq_true.mp o2 z hz, o1⟩, by simp; omega, o3⟩ hw9
  · obtain rfl : x = V.int i := hx2
    obtain ⟨i0, i1⟩ := rgI_mem.mp him
    obtain ⟨i, rfl⟩ : ∃ g : Nat, i = (g : Int) := ⟨i.toNat, by omega⟩
    repeat walk_at "ru"
    · refine rd_ixL (n := (f + 3 * i) % 8) (a := lvAt f i) (Up.up e6 hpl5) ?_ (fun w hw => hk2 w _ (Same.refl _) hw) (by simp)
      unfold lvAt
      have h : (f + 3 * i) % 8 < LVN.length := Nat.mod_lt _ (by decide)
      rw [List.getD_eq_getElem?_getD, List.getElem?_eq_getElem h]
      rfl
    · decide
    · walk_at "sd"
))
def WORS : List (Option (Int × Int)) := [none, none, some (0, 1), some (1, 1), some ((-1), 1), some (1, 2), some ((-1), 2), some (2, 3), some (5, 1), some ((-7), 3), some (3, 4), some (10 ^ Int.toNat 21, 1)]
abbrev RWo (K : PySem.W.Frag) : Rl (Option (Int × Int)) := ROp (RP K RI RI)
theorem rwo_new {K : PySem.W.Frag} {H : Hp} {p : Addr} {a b : Int} : RWo K (upd H p (.tup [.int a, .int b])) (.ref p) (some (a, b)) := ⟨⟨p, .int a, .int b, rfl, .inl (.inl upd_same), rfl, rfl⟩, fun h => nomatch h⟩
def sp_w_worth (K : PySem.W.Frag) : Sp := sp1 fun x H Q _ => Reel H x ∧ ∀ v H' o, Same H H' → o ∈ WORS → RWo K H' v o → Q v H'
abbrev n_w_worth : List Str := ["_law_reel_here", "_law_some"]
theorem sc_w_worth : FnScope n_w_worth ["_law_reel_here"] (defScope s_w_worth) := ⟨rfl, rfl, rfl, by decide +kernel, rfl, by decide +kernel, by decide +kernel⟩
theorem cal_w_worth (T : Tx P K mg) : Cal P w K mg base 12 "_law_worth" (sp_w_worth K) := @NI.run _ (by exact NI.carry : NI.Carry (by
  refine cal_of (k := 11) T.G_w_worth T.D_w_worth sc_w_worth (fun _ _ _ _ _ _ us hl => match us, hl with | [_], _ => rfl) (fun vs H Q E h => ?_) (fun cdv A outer s H vs Q E hr h => ?_)
  · obtain ⟨v0, rfl, _⟩ := h
    rfl
  obtain ⟨v0, rfl, h⟩ := h
  refine ⟨_, pss_cons (ps_set (i := 1) sc_w_worth.nd rfl (by first | exact Or.inl rfl | exact Or.inr rfl) (pe_lst (pa_cons pe_non (pa_cons pe_non (pa_cons (pe_tup (pa_cons pe_int (pa_cons pe_int pa_nil))) (pa_cons (pe_tup (pa_cons pe_int (pa_cons pe_int pa_nil))) (pa_cons (pe_tup (pa_cons (pe_un un_neg pe_int) (pa_cons pe_int pa_nil))) (pa_cons (pe_tup (pa_cons pe_int (pa_cons pe_int pa_nil))) (pa_cons (pe_tup (pa_cons (pe_un un_neg pe_int) (pa_cons pe_int pa_nil))) (pa_cons (pe_tup (pa_cons pe_int (pa_cons pe_int pa_nil))) (pa_cons (pe_tup (pa_cons pe_int (pa_cons pe_int pa_nil))) (pa_cons (pe_tup (pa_cons (pe_un un_neg pe_int) (pa_cons pe_int pa_nil))) (pa_cons (pe_tup (pa_cons pe_int (pa_cons pe_int pa_nil))) (pa_cons (pe_tup (pa_cons (pe_op op_pow pe_int pe_int) (pa_cons pe_int pa_nil))) pa_nil))))))))))))))
      (pss_one (ps_ret (pc (cal_w_any T) hr (pa_cons (pv 0) (pa_cons (pv 1) pa_nil))))), ?_⟩
  obtain ⟨hx, k⟩ := h
  repeat walk_at "ru"
  refine ⟨by show 2 ≤ sizeLine; decide, fun p0 h0 => ?_⟩
  have e0 : Same H (upd H p0 (.tup [.int 0, .int 1])) := Same.new h0
  have r0 : RWo K (upd H p0 (.tup [.int 0, .int 1])) (.ref p0) (some (0, 1)) := rwo_new
  generalize upd H p0 (.tup [.int 0, .int 1]) = G0 at e0 r0 ⊢
  repeat walk_at "ru"
  refine ⟨by show 2 ≤ sizeLine; decide, fun p1 h1 => ?_⟩
  have e1 : Same G0 (upd G0 p1 (.tup [.int 1, .int 1])) := Same.new h1
  have r1 : RWo K (upd G0 p1 (.tup [.int 1, .int 1])) (.ref p1) (some (1, 1)) := rwo_new
  generalize upd G0 p1 (.tup [.int 1, .int 1]) = G1 at e1 r1 ⊢
  repeat walk_at "ru"
  refine ⟨by show 2 ≤ sizeLine; decide, fun p2 h2 => ?_⟩
  have e2 : Same G1 (upd G1 p2 (.tup [.int (-1), .int 1])) := Same.new h2
  have r2 : RWo K (upd G1 p2 (.tup [.int (-1), .int 1])) (.ref p2) (some ((-1), 1)) := rwo_new
  generalize upd G1 p2 (.tup [.int (-1), .int 1]) = G2 at e2 r2 ⊢
  repeat walk_at "ru"
  refine ⟨by show 2 ≤ sizeLine; decide, fun p3 h3 => ?_⟩
  have e3 : Same G2 (upd G2 p3 (.tup [.int 1, .int 2])) := Same.new h3
  have r3 : RWo K (upd G2 p3 (.tup [.int 1, .int 2])) (.ref p3) (some (1, 2)) := rwo_new
  generalize upd G2 p3 (.tup [.int 1, .int 2]) = G3 at e3 r3 ⊢
  repeat walk_at "ru"
  refine ⟨by show 2 ≤ sizeLine; decide, fun p4 h4 => ?_⟩
  have e4 : Same G3 (upd G3 p4 (.tup [.int (-1), .int 2])) := Same.new h4
  have r4 : RWo K (upd G3 p4 (.tup [.int (-1), .int 2])) (.ref p4) (some ((-1), 2)) := rwo_new
  generalize upd G3 p4 (.tup [.int (-1), .int 2]) = G4 at e4 r4 ⊢
  repeat walk_at "ru"
  refine ⟨by show 2 ≤ sizeLine; decide, fun p5 h5 => ?_⟩
  have e5 : Same G4 (upd G4 p5 (.tup [.int 2, .int 3])) := Same.new h5
  have r5 : RWo K (upd G4 p5 (.tup [.int 2, .int 3])) (.ref p5) (some (2, 3)) := rwo_new
  generalize upd G4 p5 (.tup [.int 2, .int 3]) = G5 at e5 r5 ⊢
  repeat walk_at "ru"
  refine ⟨by show 2 ≤ sizeLine; decide, fun p6 h6 => ?_⟩
  have e6 : Same G5 (upd G5 p6 (.tup [.int 5, .int 1])) := Same.new h6
  have r6 : RWo K (upd G5 p6 (.tup [.int 5, .int 1])) (.ref p6) (some (5, 1)) := rwo_new
  generalize upd G5 p6 (.tup [.int 5, .int 1]) = G6 at e6 r6 ⊢
  repeat walk_at "ru"
  refine ⟨by show 2 ≤ sizeLine; decide, fun p7 h7 => ?_⟩
  have e7 : Same G6 (upd G6 p7 (.tup [.int (-7), .int 3])) := Same.new h7
  have r7 : RWo K (upd G6 p7 (.tup [.int (-7), .int 3])) (.ref p7) (some ((-7), 3)) := rwo_new
  generalize upd G6 p7 (.tup [.int (-7), .int 3]) = G7 at e7 r7 ⊢
  repeat walk_at "ru"
  refine ⟨by show 2 ≤ sizeLine; decide, fun p8 h8 => ?_⟩
  have e8 : Same G7 (upd G7 p8 (.tup [.int 3, .int 4])) := Same.new h8
  have r8 : RWo K (upd G7 p8 (.tup [.int 3, .int 4])) (.ref p8) (some (3, 4)) := rwo_new
  generalize upd G7 p8 (.tup [.int 3, .int 4]) = G8 at e8 r8 ⊢
  repeat walk_at "ru"
  · refine ⟨by show 2 ≤ sizeLine; decide, fun p9 h9 => ?_⟩
    have e9 : Same G8 (upd G8 p9 (.tup [.int (10 ^ Int.toNat 21), .int 1])) := Same.new h9
    have r9 : RWo K (upd G8 p9 (.tup [.int (10 ^ Int.toNat 21), .int 1])) (.ref p9) (some ((10 ^ Int.toNat 21), 1)) := rwo_new
    generalize upd G8 p9 (.tup [.int (10 ^ Int.toNat 21), .int 1]) = G9 at e9 r9 ⊢
    repeat walk_at "ru"
    refine ⟨by show 12 ≤ sizeLine; decide, fun q hq => ?_⟩
    have eq : Same G9 (upd G9 q (.lst [.non, .non, .ref p0, .ref p1, .ref p2, .ref p3, .ref p4, .ref p5, .ref p6, .ref p7, .ref p8, .ref p9])) := Same.new hq
    have hl : RL K (RWo K) (upd G9 q (.lst [.non, .non, .ref p0, .ref p1, .ref p2, .ref p3, .ref p4, .ref p5, .ref p6, .ref p7, .ref p8, .ref p9])) (.ref q) WORS := RL.mk hq (.cons (show RWo K _ _ none from rfl) (.cons (show RWo K _ _ none from rfl) (.cons (Up.up (R := RWo K) ((((((((((Same.refl _).trans e1).trans e2).trans e3).trans e4).trans e5).trans e6).trans e7).trans e8).trans e9) r0) (.cons (Up.up (R := RWo K) (((((((((Same.refl _).trans e2).trans e3).trans e4).trans e5).trans e6).trans e7).trans e8).trans e9) r1) (.cons (Up.up (R := RWo K) ((((((((Same.refl _).trans e3).trans e4).trans e5).trans e6).trans e7).trans e8).trans e9) r2) (.cons (Up.up (R := RWo K) (((((((Same.refl _).trans e4).trans e5).trans e6).trans e7).trans e8).trans e9) r3) (.cons (Up.up (R := RWo K) ((((((Same.refl _).trans e5).trans e6).trans e7).trans e8).trans e9) r4) (.cons (Up.up (R := RWo K) (((((Same.refl _).trans e6).trans e7).trans e8).trans e9) r5) (.cons (Up.up (R := RWo K) ((((Same.refl _).trans e7).trans e8).trans e9) r6) (.cons (Up.up (R := RWo K) (((Same.refl _).trans e8).trans e9) r7) (.cons (Up.up (R := RWo K) ((Same.refl _).trans e9) r8) (.cons (Up.up (R := RWo K) (Same.refl _) r9) .nil)))))))))))) (by show 12 ≤ sizeLine; decide)
    have e09 := (((((((((e0.trans e1).trans e2).trans e3).trans e4).trans e5).trans e6).trans e7).trans e8).trans e9)
    generalize upd G9 q (.lst [.non, .non, .ref p0, .ref p1, .ref p2, .ref p3, .ref p4, .ref p5, .ref p6, .ref p7, .ref p8, .ref p9]) = G at eq hl ⊢
    repeat walk_at "ru"
    exact ⟨_, _, rfl, _, RWo K, inferInstance, WORS, Reel.up (e09.trans eq) hx, hl, by decide, by decide, fun a v H' ha e hv => k v H' a ((e09.trans eq).trans e) ha hv⟩
  · walk_at "side"
))
def sp_w_codes (K : PySem.W.Frag) : Sp := sp3 fun x y z H Q _ => ∃ (ls : List Str) (n : Nat), Reel H x ∧ RT K RS H y ls ∧ z = .int (n : Int) ∧ ls.length ≤ 12 ∧ n ≤ 100 ∧ ∀ v H' cs, Same H H' → CdOk ls.length cs → cs.length = n → RL K RIo H' v cs → Q v H'
abbrev n_w_codes : List Str := ["_law_reel_here", "_law_levels_here", "_law_total", "_law_found", "_law_row", "_law_code"]
theorem sc_w_codes : FnScope n_w_codes ["_law_reel_here", "_law_levels_here", "_law_total"] (defScope s_w_codes) := ⟨rfl, rfl, rfl, by decide +kernel, rfl, by decide +kernel, by decide +kernel⟩
theorem cal_w_codes (T : Tx P K mg) : Cal P w K mg base 11 "_law_codes" (sp_w_codes K) := @NI.run _ (by exact NI.carry : NI.Carry (by
  refine cal_of (k := 10) T.G_w_codes T.D_w_codes sc_w_codes (fun _ _ _ _ _ _ us hl => match us, hl with | [_, _, _], _ => rfl) (fun vs H Q E h => ?_) (fun cdv A outer s H vs Q E hr h => ?_)
  · obtain ⟨v0, v1, v2, rfl, _⟩ := h
    rfl
  obtain ⟨v0, v1, v2, rfl, h⟩ := h
  refine ⟨_, pss_cons (ps_set (i := 3) sc_w_codes.nd rfl (by first | exact Or.inl rfl | exact Or.inr rfl) (pe_lst pa_nil))
      (pss_cons (ps_for (passes_of rfl) rfl (pi_range1 rfl T.N_range (pa_cons (pv 2) pa_nil)) (pg_name (i := 4) sc_w_codes.nd rfl (by first | exact Or.inl rfl | exact Or.inr rfl))
        (pss_cons (ps_set (i := 5) sc_w_codes.nd rfl (by first | exact Or.inl rfl | exact Or.inr rfl) (pc (cal_turn T) hr (pa_cons (pv 0) (pa_cons (pe_op op_add (pe_callB (kLen K) (by rfl) T.N_len (by decide +kernel) (pa_cons (pv 1) pa_nil)) pe_int) pa_nil))))
      (pss_one (ps_expr (pe_bm PySem.F.plainAttrs_list PySem.F.slot_list_append PySem.F.type_list_append mt_append (pv 3) (pa_cons (pe_ifExp (pt_cmpR op_eq (pv 5) (pe_callB (kLen K) (by rfl) T.N_len (by decide +kernel) (pa_cons (pv 1) pa_nil)) (nomark _)) pe_non (pv 5)) pa_nil))))))
      (pss_one (ps_ret (pv 3)))), ?_⟩
  obtain ⟨ls, n, hx, hy, rfl, hl, hn, k⟩ := h
  have big : 100000 ≤ sizeLine := by decide
  repeat walk_at "ru"
  refine ⟨Nat.zero_le _, fun q hq => ?_⟩
  have e0 : Same H (upd H q (.lst [])) := Same.new hq
  have h0 : LB RIo (upd H q (.lst [])) q [] := LB.new hq .nil (Nat.zero_le _)
  generalize upd H q (.lst []) = H0 at e0 h0 ⊢
  repeat walk_at "ru"
  refine forRN (by omega) (by omega) (forN (fun i σ' H' => Same H H' ∧ ∃ cs x4 x5, σ' = [some v0, some v1, some (.int (n : Int)), some (.ref q), x4, x5] ∧ LB RIo H' q cs ∧ (∀ c, some c ∈ cs → 0 ≤ c ∧ c < (ls.length : Int)) ∧ cs.length = i) ⟨e0, [], none, none, rfl, h0, fun t ht => (nomatch ht), rfl⟩ ?_ ?_)
  · rintro i σ' H4 hi ⟨e4, cs, x4, x5, rfl, hLB, hc, hcl⟩
    repeat walk_at "ru"
    refine rd_lenT (Up.up e4 hy) ?_
    repeat walk_at "ru"
    refine ⟨_, _, rfl, _, Reel.up e4 hx, rfl, by omega, by omega, fun c H5 c0 c1 e5 => ?_⟩
    have hL5 := LB.up e5 hLB
    have e45 := e4.trans e5
    repeat walk_at "ru"
    refine ⟨hL5.ty, ?_⟩
    repeat walk_at "ru"
    refine rd_lenT (Up.up e45 hy) ?_
    repeat walk_at "ru"
    have push : ∀ (v : V) (o : Option Int), RIo (hid q H5) v o → (∀ c, o = some c → 0 ≤ c ∧ c < (ls.length : Int)) → ∀ Q' : VK, (∀ H', (Same H H' ∧ ∃ cs', LB RIo H' q cs' ∧ (∀ c, some c ∈ cs' → 0 ≤ c ∧ c < (ls.length : Int)) ∧ cs'.length = i + 1) → Q' .non H') → rAppend (.ref q) [v] H5 Q' := fun v o hv ho Q' hQ => by
      refine LB.push hL5 hv (by omega) fun H6 k6 hL6 => hQ H6 ⟨Same.own e45 hq k6, cs ++ [o], hL6, fun c hm => ?_, by rw [List.length_append, List.length_singleton, hcl]⟩
      rcases List.mem_append.mp hm with hm | hm
      · exact hc c hm
      · exact ho c (List.mem_singleton.mp hm).symm
    refine ite_dec (fun hz => ?_) (fun hz => ?_)
    · repeat walk_at "ru"
      refine push .non none rfl (fun c h => nomatch h) _ fun H6 ⟨e6, cs', h1, h2, h3⟩ => ?_
      repeat walk_at "ru"
      exact ⟨e6, cs', _, _, rfl, h1, h2, h3⟩
    · repeat walk_at "ru"
      refine push (.int c) (some c) ⟨rfl, fun h => nomatch h⟩ (fun d h => by cases h; exact ⟨c0, by omega⟩) _ fun H6 ⟨e6, cs', h1, h2, h3⟩ => ?_
      repeat walk_at "ru"
      exact ⟨e6, cs', _, _, rfl, h1, h2, h3⟩
  · rintro σ' H4 ⟨e4, cs, x4, x5, rfl, hLB, hc, hcl⟩
    repeat walk_at "ru"
    exact k _ _ cs e4 ⟨by omega, hc⟩ (by omega) hLB.rl
))
inductive LC
  | fac (ls : List Str) (cs : List (Option Int))
  | num (ws : List (Option (Int × Int)))
def LcR (K : PySem.W.Frag) : Rl LC := fun H v D => match D with
  | .fac ls cs => ∃ p vl vc, v = .ref p ∧ SqT K H p [.str "factor", vl, vc] ∧ RT K RS H vl ls ∧ RL K RIo H vc cs
  | .num ws => ∃ p vw, v = .ref p ∧ SqT K H p [.str "number", vw] ∧ RL K (RWo K) H vw ws
instance {K : PySem.W.Frag} : Up (LcR K) := ⟨fun {H H' v D} e h => by
  cases D with
  | fac ls cs =>
    obtain ⟨p, vl, vc, h1, h2, h3, h4⟩ := h
    exact ⟨p, vl, vc, h1, Same.seqT e h2, Up.up e h3, Up.up e h4⟩
  | num ws =>
    obtain ⟨p, vw, h1, h2, h3⟩ := h
    exact ⟨p, vw, h1, Same.seqT e h2, Up.up e h3⟩⟩
def LC.long : LC → Nat
  | .fac _ cs => cs.length
  | .num ws => ws.length
structure LcOk (D : LC) (n : Nat) : Prop where
  long : D.long = n
  fac : ∀ ls cs, D = .fac ls cs → LvD ls ∧ CdOk ls.length cs
  num : ∀ ws, D = .num ws → ∀ o ∈ ws, o ∈ WORS
def sp_w_column (K : PySem.W.Frag) : Sp := sp3 fun x y z H Q _ => ∃ (n : Nat) (way : Int), Reel H x ∧ y = .int (n : Int) ∧ z = .int way ∧ n ≤ 100 ∧ ∀ v H' D, Same H H' → LcOk D n → LcR K H' v D → Q v H'
abbrev n_w_column : List Str := ["_law_reel_here", "_law_total", "_law_way", "_law_levels_here", "_law_row"]
theorem sc_w_column : FnScope n_w_column ["_law_reel_here", "_law_total", "_law_way"] (defScope s_w_column) := ⟨rfl, rfl, rfl, by decide +kernel, rfl, by decide +kernel, by decide +kernel⟩
theorem cal_w_column (T : Tx P K mg) : Cal P w K mg base 13 "_law_column" (sp_w_column K) := @NI.run _ (by exact NI.carry : NI.Carry (by
  refine cal_of (k := 12) T.G_w_column T.D_w_column sc_w_column (fun _ _ _ _ _ _ us hl => match us, hl with | [_, _, _], _ => rfl) (fun vs H Q E h => ?_) (fun cdv A outer s H vs Q E hr h => ?_)
  · obtain ⟨v0, v1, v2, rfl, _⟩ := h
    rfl
  obtain ⟨v0, v1, v2, rfl, h⟩ := h
  refine ⟨_, pss_cons (ps_if (pt_cmpR op_eq (pv 2) pe_int (nomark _))
        (pss_cons (ps_set (i := 3) sc_w_column.nd rfl (by first | exact Or.inl rfl | exact Or.inr rfl) (pc (cal_w_levels T) hr (pa_cons (pv 0) pa_nil)))
      (pss_one (ps_ret (pe_tup (pa_cons pe_str (pa_cons (pv 3) (pa_cons (pc (cal_w_codes T) hr (pa_cons (pv 0) (pa_cons (pv 3) (pa_cons (pv 1) pa_nil)))) pa_nil)))))))
        (pss_nil))
      (pss_one (ps_ret (pe_tup (pa_cons pe_str (pa_cons (pe_lc (own := [("_law_row", 4)]) (g := gName 4) (tt := tYes) (by rfl) sc_w_column.nd (pi_range1 rfl T.N_range (pa_cons (pv 1) pa_nil)) (blkOk_by (own := [("_law_row", 4)]) (N := n_w_column) (by rfl)) (fun _ _ _ _ _ => pg_name (i := 4) sc_w_column.nd rfl (by first | exact Or.inl rfl | exact Or.inr rfl)) (fun _ _ _ _ _ => pts_nil) (fun _ _ _ _ _ => pe_hid (pc (cal_w_worth T) hr (pa_cons (pv 0) pa_nil)))) pa_nil))))), ?_⟩
  obtain ⟨n, way, hx, rfl, rfl, hn, k⟩ := h
  repeat walk_at "ru"
  refine ite_dec (fun hw => ?_) (fun hw => ?_)
  · repeat walk_at "ru"
    refine ⟨_, rfl, hx, fun v H1 ls e1 hl hv => ?_⟩
    repeat walk_at "ru"
    refine ⟨_, _, _, rfl, ls, n, Reel.up e1 hx, hv, rfl, by have := hl.five; omega, hn, fun v2 H2 cs e2 hc hcl hv2 => ?_⟩
    repeat walk_at "ru"
    refine ⟨by show 3 ≤ sizeLine; decide, fun q hq => ?_⟩
    refine k _ _ (.fac ls cs) ((e1.trans e2).trans (Same.new hq)) ⟨hcl, fun ls' cs' e => ?_, fun ws e => nomatch e⟩ ⟨q, _, _, rfl, .inl (.inl upd_same), Up.up (e2.trans (Same.new hq)) hv, Up.up (Same.new hq) hv2⟩
    cases e
    exact ⟨hl, hc⟩
  · repeat walk_at "ru"
    refine lcR1 (by omega) (fun J W hz => lcK_rel (S := RWo K) (K := K) W hz (fun o => o ∈ WORS) (fun v H1 ws e1 hl hP hv => ?_) (fun i G x him e1 hx2 Kt hk2 => ?_)) (by omega)
    · repeat walk_at "ru"
      refine ⟨by show 2 ≤ sizeLine; decide, fun q hq => ?_⟩
      rw [rgI_len, Int.toNat_natCast] at hl
      refine k _ _ (.num ws) (e1.trans (Same.new hq)) ⟨hl, (fun ls' cs' e => nomatch e), fun ws' e => ?_⟩ ⟨q, _, rfl, .inl (.inl upd_same), Up.up (Same.new hq) hv⟩
      cases e
      exact hP
    · repeat walk_at "ru"
      exact ⟨_, rfl, Reel.up e1 hx, fun v H2 o e2 ho hv => hk2 _ _ o e2 hv ho⟩
))
abbrev Rows := List (Str × LC)
abbrev RwR (K : PySem.W.Frag) : Rl Rows := RL K (RP K RS (LcR K))
structure RwOk (rs : Rows) (m n : Nat) : Prop where
  nm : NsOk (rs.map (·.1)) m
  ok : ∀ r ∈ rs, LcOk r.2 n
def sp_w_rows (K : PySem.W.Frag) : Sp := sp3 fun x y z H Q _ => ∃ m n : Nat, Reel H x ∧ y = .int (m : Int) ∧ z = .int (n : Int) ∧ m ≤ 6 ∧ n ≤ 100 ∧ ∀ v H' rs, Same H H' → RwOk rs m n → RwR K H' v rs → Q v H'
abbrev n_w_rows : List Str := ["_law_reel_here", "_law_many", "_law_total", "_law_name"]
theorem sc_w_rows : FnScope n_w_rows ["_law_reel_here", "_law_many", "_law_total"] (defScope s_w_rows) := ⟨rfl, rfl, rfl, by decide +kernel, rfl, by decide +kernel, by decide +kernel⟩
theorem cal_w_rows (T : Tx P K mg) : Cal P w K mg base 14 "_law_rows" (sp_w_rows K) := @NI.run _ (by exact NI.carry : NI.Carry (by
  refine cal_of (k := 13) T.G_w_rows T.D_w_rows sc_w_rows (fun _ _ _ _ _ _ us hl => match us, hl with | [_, _, _], _ => rfl) (fun vs H Q E h => ?_) (fun cdv A outer s H vs Q E hr h => ?_)
  · obtain ⟨v0, v1, v2, rfl, _⟩ := h
    rfl
  obtain ⟨v0, v1, v2, rfl, h⟩ := h
  refine ⟨_, pss_one (ps_ret (pe_lc (own := [("_law_name", 3)]) (g := gName 3) (tt := tYes) (by rfl) sc_w_rows.nd (kPiL K (pc (cal_w_names T) hr (pa_cons (pv 0) (pa_cons (pv 1) pa_nil)))) (blkOk_by (own := [("_law_name", 3)]) (N := n_w_rows) (by rfl)) (fun _ _ _ _ _ => pg_name (i := 3) sc_w_rows.nd rfl (by first | exact Or.inl rfl | exact Or.inr rfl)) (fun _ _ _ _ _ => pts_nil) (fun _ _ _ _ _ => pe_hid (pe_tup (pa_cons (pv 3) (pa_cons (pc (cal_w_column T) hr (pa_cons (pv 0) (pa_cons (pv 2) (pa_cons (pc (cal_turn T) hr (pa_cons (pv 0) (pa_cons pe_int pa_nil))) pa_nil)))) pa_nil)))))), ?_⟩
  obtain ⟨m, n, hx, rfl, rfl, hm, hn, k⟩ := h
  repeat walk_at "ru"
  refine ⟨_, _, rfl, m, hx, rfl, hm, fun v1 H1 ns e1 hns hv1 => ?_⟩
  refine lcL hv1 fun J W hz => lcK_inv (S := RP K RS (LcR K)) (K := K) W hz (fun r => r.1) (fun r => LcOk r.2 n) (fun v H2 rs e2 hmap hP hv => ?_) (fun z G x hzm e2 hx2 Kt hk2 => ?_)
  · exact k _ _ rs (e1.trans e2) ⟨by rw [hmap]; exact hns, hP⟩ hv
  · obtain rfl : x = V.str z := hx2
    repeat walk_at "ru"
    refine ⟨_, _, rfl, _, Reel.up (e1.trans e2) hx, rfl, by omega, by omega, fun way H3 w0 w1 e3 => ?_⟩
    repeat walk_at "ru"
    refine ⟨_, _, _, rfl, n, way, Reel.up ((e1.trans e2).trans e3) hx, rfl, rfl, hn, fun v4 H4 D e4 hD hv4 => ?_⟩
    repeat walk_at "ru"
    refine ⟨by show 2 ≤ sizeLine; decide, fun q hq => ?_⟩
    exact hk2 _ _ (z, D) ((e3.trans e4).trans (Same.new hq)) ⟨q, _, _, rfl, .inl (.inl upd_same), rfl, Up.up (Same.new hq) hv4⟩ rfl hD
))
theorem rd_lcO {t1 t2 : TI} {g : TG} {tt : TT} {te : TE} {vs : List Nat} {σ : L2.St} {H : Hp} {Q : VK} (q : tLc t1 g tt te vs σ H Q ∨ tLc t2 g tt te vs σ H Q) : tLc (iOr t1 t2) g tt te vs σ H Q := q
def toQ (p : Int × Int) : Rat := Rat.divInt p.1 p.2
theorem wors_ok : ∀ o ∈ WORS, ∀ p, o = some p → p.2 ≠ 0 ∧ (-(10 ^ 60) < p.1 ∧ p.1 < 10 ^ 60) ∧ (-(10 ^ 60) < p.2 ∧ p.2 < 10 ^ 60) := @NI.run _ (by exact NI.carry : NI.Carry (by
  intro o ho p hp
  subst hp
  have h : (WORS.all fun o => match o with
    | none => true
    | some p => decide (p.2 ≠ 0 ∧ (-(10 ^ 60) < p.1 ∧ p.1 < 10 ^ 60) ∧ (-(10 ^ 60) < p.2 ∧ p.2 < 10 ^ 60))) = true := by decide +kernel
  exact of_decide_eq_true (List.all_eq_true.mp h _ ho)
))
def sp_w_ratio (K : PySem.W.Frag) : Sp := sp1 fun x H Q _ => ∃ o, RWo K H x o ∧ o ∈ WORS ∧ ∀ v H', Same H H' → RQo K H' v (o.map toQ) → Q v H'
abbrev n_w_ratio : List Str := ["_law_pair"]
theorem sc_w_ratio : FnScope n_w_ratio ["_law_pair"] (defScope s_w_ratio) := ⟨rfl, rfl, rfl, by decide +kernel, rfl, by decide +kernel, by decide +kernel⟩
theorem cal_w_ratio (T : Tx P K mg) : Cal P w K mg base 7 "_law_ratio" (sp_w_ratio K) := @NI.run _ (by exact NI.carry : NI.Carry (by
  refine cal_of (k := 6) T.G_w_ratio T.D_w_ratio sc_w_ratio (fun _ _ _ _ _ _ us hl => match us, hl with | [_], _ => rfl) (fun vs H Q E h => ?_) (fun cdv A outer s H vs Q E hr h => ?_)
  · obtain ⟨v0, rfl, _⟩ := h
    rfl
  obtain ⟨v0, rfl, h⟩ := h
  refine ⟨_, pss_one (ps_ret (pe_ifExp (pt_cmpR op_isN (pv 0) pe_non (nomark _)) pe_non (pm (ctor_Ratio T) hr (pa_cons (pe_ix (kIxT K) (pv 0) pe_int (fun _ _ => rfl)) (pa_cons (pe_ix (kIxT K) (pv 0) pe_int (fun _ _ => rfl)) pa_nil))))), ?_⟩
  obtain ⟨o, hx, ho, k⟩ := h
  cases o with
  | none =>
    obtain rfl : v0 = V.non := hx
    repeat walk_at "ru"
    refine ⟨rfl, ?_⟩
    rw [decide_eq_true rfl]
    repeat walk_at "ru"
    exact k _ _ (Same.refl _) rfl
  | some p =>
    obtain ⟨h1, h2, h3⟩ := wors_ok _ ho p rfl
    obtain ⟨⟨q, y, z, rfl, sq, ry, rz⟩, hne⟩ := hx
    obtain rfl : y = V.int p.1 := ry
    obtain rfl : z = V.int p.2 := rz
    repeat walk_at "ru"
    refine ⟨rfl, ?_⟩
    rw [decide_eq_false hne]
    repeat walk_at "ru"
    refine ⟨q, _, 0, _, rfl, rfl, sq, rfl, ?_⟩
    repeat walk_at "ru"
    refine ⟨q, _, 1, _, rfl, rfl, sq, rfl, ?_⟩
    repeat walk_at "ru"
    exact ⟨_, _, toQ p, .inl rfl, .inr ⟨_, _, rfl, rfl, h1, h2, h3, rfl⟩, fun v H' e hq => k v H' e ⟨hq, rq_ref hq⟩⟩
))
def toC : LC → ColD
  | .fac ls cs => .fac ls cs
  | .num ws => .num (ws.map (Option.map toQ))
theorem toC_long (D : LC) : (toC D).long = D.long := @NI.run _ (by exact NI.carry : NI.Carry (by
  cases D with
  | fac ls cs => rfl
  | num ws => exact List.length_map _
))
def sp_w_made (K : PySem.W.Frag) : Sp := sp1 fun x H Q _ => ∃ D n, LcR K H x D ∧ LcOk D n ∧ n ≤ 100 ∧ ∀ v H', Same H H' → ColR K H' v (toC D) → Q v H'
abbrev n_w_made : List Str := ["_law_column_here", "_law_pair"]
theorem sc_w_made : FnScope n_w_made ["_law_column_here"] (defScope s_w_made) := ⟨rfl, rfl, rfl, by decide +kernel, rfl, by decide +kernel, by decide +kernel⟩
theorem cal_w_made (T : Tx P K mg) : Cal P w K mg base 8 "_law_made" (sp_w_made K) := @NI.run _ (by exact NI.carry : NI.Carry (by
  refine cal_of (k := 7) T.G_w_made T.D_w_made sc_w_made (fun _ _ _ _ _ _ us hl => match us, hl with | [_], _ => rfl) (fun vs H Q E h => ?_) (fun cdv A outer s H vs Q E hr h => ?_)
  · obtain ⟨v0, rfl, _⟩ := h
    rfl
  obtain ⟨v0, rfl, h⟩ := h
  refine ⟨_, pss_cons (ps_if (pt_cmpR op_eq (pe_ix (kIxT K) (pv 0) pe_int (fun _ _ => rfl)) pe_str (nomark _))
        (pss_one (ps_ret (pm (ctor_Factor T) hr (pa_cons (pe_ix (kIxT K) (pv 0) pe_int (fun _ _ => rfl)) (pa_cons (pe_callTy (kTuple K) (by rfl) T.N_tuple (by decide +kernel) (pa_cons (pe_ix (kIxT K) (pv 0) pe_int (fun _ _ => rfl)) pa_nil)) pa_nil)))))
        (pss_nil))
      (pss_one (ps_ret (pm (ctor_Numbers T) hr (pa_cons (pe_callTy (kTuple K) (by rfl) T.N_tuple (by decide +kernel) (pa_cons (pe_lc (own := [("_law_pair", 1)]) (g := gName 1) (tt := tYes) (by rfl) sc_w_made.nd (pi_or (kPiL K (pe_ix (kIxT K) (pv 0) pe_int (fun _ _ => rfl))) (kPiT K (pe_ix (kIxT K) (pv 0) pe_int (fun _ _ => rfl)))) (blkOk_by (own := [("_law_pair", 1)]) (N := n_w_made) (by rfl)) (fun _ _ _ _ _ => pg_name (i := 1) sc_w_made.nd rfl (by first | exact Or.inl rfl | exact Or.inr rfl)) (fun _ _ _ _ _ => pts_nil) (fun _ _ _ _ _ => pe_hid (pc (cal_w_ratio T) hr (pa_cons (pv 1) pa_nil)))) pa_nil)) pa_nil)))), ?_⟩
  obtain ⟨D, n, hx, hD, hn, k⟩ := h
  have hlong := hD.long
  cases D with
  | fac ls cs =>
    obtain ⟨p, vl, vc, rfl, sq, hl, hc⟩ := hx
    obtain ⟨o1, o2⟩ := hD.fac ls cs rfl
    repeat walk_at "ru"
    refine ⟨p, _, 0, _, rfl, rfl, sq, rfl, ?_⟩
    repeat walk_at "ru"
    rw [decide_eq_true rfl]
    repeat walk_at "ru"
    refine ⟨p, _, 1, _, rfl, rfl, sq, rfl, ?_⟩
    repeat walk_at "ru"
    refine ⟨p, _, 2, _, rfl, rfl, sq, rfl, ?_⟩
    repeat walk_at "ru"
    refine rd_tupleL hc fun w9 H9 e9 hw9 => ?_
    repeat walk_at "ru"
    exact ⟨_, _, rfl, ls, cs, Up.up e9 hl, hw9, o1.ok, o2, fun v H' e hv => k v H' (e9.trans e) hv⟩
  | num ws =>
    obtain ⟨p, vw, rfl, sq, hw⟩ := hx
    have o1 := hD.num ws rfl
    repeat walk_at "ru"
    refine ⟨p, _, 0, _, rfl, rfl, sq, rfl, ?_⟩
    repeat walk_at "ru"
    rw [decide_eq_false (show ¬ (("number" : Str) = "factor") by decide)]
    repeat walk_at "ru"
    refine rd_lcO (.inl ?_)
    repeat walk_at "ru"
    refine ⟨p, _, 1, _, rfl, rfl, sq, rfl, ?_⟩
    refine lcL hw fun J W hz => lcK_name (S := RQo K) (K := K) W hz (Option.map toQ) (fun v1 H1 e1 hv1 => ?_) (fun o G x hom e1 hx2 Kt hk2 => ?_)
    · repeat walk_at "ru"
      refine rd_tupleL hv1 fun w9 H9 e9 hw9 => ?_
      repeat walk_at "ru"
      exact ⟨_, rfl, _, hw9, by rw [List.length_map]; have : ws.length = n := hlong; omega, fun v H' e hv => k v H' ((e1.trans e9).trans e) hv⟩
    · repeat walk_at "ru"
      exact ⟨_, rfl, o, hx2, o1 o hom, fun v H' e hv => hk2 _ _ e hv⟩
))
def rowsC (rs : Rows) : Cols := rs.map fun r => (r.1, toC r.2)
theorem rowsC_names {rs : Rows} : (rowsC rs).map (·.1) = rs.map (·.1) := @NI.run _ (by exact NI.carry : NI.Carry (by
  unfold rowsC
  rw [List.map_map]
  rfl
))
theorem pool_name : ∀ z ∈ POOLN, nameB z = true := @NI.run _ (by exact NI.carry : NI.Carry (by decide +kernel
))
theorem RwOk.cs {rs : Rows} {m n : Nat} (h : RwOk rs m n) (hm : m ≤ 12) : CsOk (rowsC rs) n := ⟨fun c hc => by
    obtain ⟨r, hr, rfl⟩ := List.mem_map.mp hc
    exact pool_name _ (h.nm.pool _ (List.mem_map.mpr ⟨r, hr, rfl⟩)), by rw [rowsC_names]; exact h.nm.nd, by
    have := h.nm.len
    rw [List.length_map] at this
    unfold rowsC
    rw [List.length_map]
    omega, fun c hc => by
    obtain ⟨r, hr, rfl⟩ := List.mem_map.mp hc
    rw [toC_long]
    exact (h.ok r hr).long⟩
def sp_w_table (K : PySem.W.Frag) : Sp := sp2 fun x y H Q _ => ∃ (rs : Rows) (m n : Nat), RwR K H x rs ∧ RwOk rs m n ∧ m ≤ 12 ∧ n ≤ 100 ∧ RTo y (rowsC rs) n ∧ ∀ v H', Same H H' → TabR K H' v ⟨srtC (rowsC rs), n⟩ → TOk ⟨srtC (rowsC rs), n⟩ → Q v H'
abbrev n_w_table : List Str := ["_law_rows_here", "_law_total", "_law_found", "_law_name", "_law_column_here"]
theorem sc_w_table : FnScope n_w_table ["_law_rows_here", "_law_total"] (defScope s_w_table) := ⟨rfl, rfl, rfl, by decide +kernel, rfl, by decide +kernel, by decide +kernel⟩
theorem cal_w_table (T : Tx P K mg) : Cal P w K mg base 9 "_law_table" (sp_w_table K) := @NI.run _ (by exact NI.carry : NI.Carry (by
  refine cal_of (k := 8) T.G_w_table T.D_w_table sc_w_table (fun _ _ _ _ _ _ us hl => match us, hl with | [_, _], _ => rfl) (fun vs H Q E h => ?_) (fun cdv A outer s H vs Q E hr h => ?_)
  · obtain ⟨v0, v1, rfl, _⟩ := h
    rfl
  obtain ⟨v0, v1, rfl, h⟩ := h
  refine ⟨_, pss_cons (ps_set (i := 2) sc_w_table.nd rfl (by first | exact Or.inl rfl | exact Or.inr rfl) pe_dnewK)
      (pss_cons (ps_for (passes_of rfl) rfl (kPiL K (pv 0)) (kTup K (by rfl) (pgs_cons (pg_name (i := 3) sc_w_table.nd rfl (by first | exact Or.inl rfl | exact Or.inr rfl)) (pgs_cons (pg_name (i := 4) sc_w_table.nd rfl (by first | exact Or.inl rfl | exact Or.inr rfl)) pgs_nil)))
        (pss_one (ps_asg (pc (cal_w_made T) hr (pa_cons (pv 4) pa_nil)) (pg_sub (pv 2) (pv 3) (set_dict (hu_of hr))))))
      (pss_one (ps_ret (pmKW (ctorN_Table T) hr takesE (pa_cons (pv 2) pa_nil) (pk_cons (pv 1) pk_nil))))), ?_⟩
  obtain ⟨rs, m, n, hx, hok, hm, hn, hy, k⟩ := h
  have big : 100000 ≤ sizeLine := by decide
  repeat walk_at "ru"
  refine rd_dnew fun d hd => ?_
  have e0 : Same H (upd H d (.dK [])) := Same.new hd
  have hD0 : DH (ColR K) (upd H d (.dK [])) d (keyed ((rowsC rs).take 0)) := ⟨[], upd_same, .nil⟩
  generalize upd H d (.dK []) = H0 at e0 hD0 ⊢
  repeat walk_at "ru"
  obtain ⟨p, ws, rfl, sq, ra, hz⟩ := id hx
  refine ⟨p, rfl, ⟨ws, Same.seq e0 sq⟩, ?_⟩
  have W := wk_list hx
  have hlen : rs.length = m := by
    have := hok.nm.len
    rwa [List.length_map] at this
  refine forKo W (fun i σ' H' => Same H H' ∧ DH (ColR K) H' d (keyed ((rowsC rs).take i)) ∧ ∃ x3 x4, σ' = [some (.ref p), some v1, some (.ref d), x3, x4]) ⟨e0, hD0, none, none, rfl⟩ (fun i σ' H' h => h.1) ?_ ?_
  · rintro i σ' H4 c y H5 hi ⟨e4, hD4, x3, x4, rfl⟩ e45 e5 hy5
    refine rd_gpair (a := c.1) (b := c.2) hy5 fun y1 y2 hy1 hy2 => ?_
    obtain rfl := hy1
    have hcm := List.mem_of_getElem? hi
    repeat walk_at "ru"
    refine ⟨_, rfl, c.2, n, hy2, hok.ok c hcm, hn, fun v8 H8 e58 hv8 => ?_⟩
    have e48 := e45.trans e58
    obtain ⟨kvs, hk4, hkv⟩ := hD4
    have hk8 := e48 _ _ hk4
    have hcol : (rowsC rs)[i]? = some (c.1, toC c.2) := by unfold rowsC; rw [List.getElem?_map, hi]; rfl
    repeat walk_at "ru"
    refine ⟨d, _, rfl, DPut.k (k := .inr c.1) hk8 ?_, ?_⟩
    · have h1 := Paired.length hkv
      unfold keyed at h1
      rw [List.length_map, List.length_take] at h1
      have : (rowsC rs).length = m := by unfold rowsC; rw [List.length_map]; exact hlen
      omega
    refine ⟨fun b u q => ?_, ?_, _, _, rfl⟩
    · rw [upd_ne (ne_of_none q hd)]
      exact (e4.trans e48) _ _ q
    · have hkv8 : KVs (ColR K) (Wo.hd d H8) kvs (keyed ((rowsC rs).take i)) := KVs.up (hd_mono e48) hkv
      refine ⟨_, upd_same, ?_⟩
      rw [hd_of]
      have hp := KVs.put (k := (.inr c.1 : Key)) hkv8 (Ud.ud hk8 (show ColR K H8 v8 (toC c.2) from hv8))
      have hnew : c.1 ∉ ((rowsC rs).take i).map (·.1) := fun z => by
        have hnd := hok.nm.nd
        rw [← rowsC_names] at hnd
        obtain ⟨hi2, h3⟩ := List.getElem?_eq_some_iff.mp hcol
        rw [List.map_take] at z
        obtain ⟨j, hj, ej⟩ := List.mem_take_iff_getElem.mp z
        have h2 : ((rowsC rs).map (·.1))[i]'(by rw [List.length_map]; exact hi2) = c.1 := by rw [List.getElem_map, h3]
        exact List.pairwise_iff_getElem.mp (List.nodup_iff_pairwise_ne.mp hnd) j i (by omega) (by rw [List.length_map]; exact hi2) (by omega) (ej.trans h2.symm)
      rw [putA_keyed (c := (c.1, toC c.2)), putC_new hnew] at hp
      rw [List.take_succ, hcol]
      exact hp
  · rintro σ' H4 ⟨e4, hD4, x3, x4, rfl⟩
    rw [show rs.length = (rowsC rs).length by unfold rowsC; rw [List.length_map], List.take_length] at hD4
    repeat walk_at "ru"
    refine ⟨rfl, rfl, ?_⟩
    exact tab_made ⟨d, rowsC rs, n, rfl, hy, hD4.da, hok.cs hm, by omega, fun v H' e t o => k v H' (e4.trans e) t o⟩
))
inductive SD
  | int (i : Int)
  | fac (nm : Str) (ls : List Str) (cs : List (Option Int))
  | num (nm : Str) (ts : List (Option Str))
abbrev RSo : Rl (Option Str) := ROp RS
def SdR (K : PySem.W.Frag) : Rl SD := fun H v D => match D with
  | .int i => v = .int i
  | .fac nm ls cs => ∃ p vl vc, v = .ref p ∧ SqT K H p [.str nm, .str "factor", vl, vc] ∧ RT K RS H vl ls ∧ RT K RIo H vc cs
  | .num nm ts => ∃ p vw, v = .ref p ∧ SqT K H p [.str nm, .str "number", vw] ∧ RL K RSo H vw ts
instance {K : PySem.W.Frag} : Up (SdR K) := ⟨fun {H H' v D} e h => by
  cases D with
  | int i => exact h
  | fac nm ls cs =>
    obtain ⟨p, vl, vc, h1, h2, h3, h4⟩ := h
    exact ⟨p, vl, vc, h1, Same.seqT e h2, Up.up e h3, Up.up e h4⟩
  | num nm ts =>
    obtain ⟨p, vw, h1, h2, h3⟩ := h
    exact ⟨p, vw, h1, Same.seqT e h2, Up.up e h3⟩⟩
theorem et_rso {n : Nat} : EtC P w K mg base n RSo := fun X _ H x y a r1 r2 => by
  cases a with
  | none =>
    obtain rfl : x = V.non := r1
    obtain rfl : y = V.non := r2
    exact eqT_flat rfl rfl
  | some q =>
    obtain rfl : x = V.str q := r1.1
    obtain rfl : y = V.str q := r2.1
    exact eqT_flat rfl rfl
theorem et_rio {n : Nat} : EtC P w K mg base n RIo := et_ei ei_rio
theorem et_str {n : Nat} : EtC P w K mg base n RS := et_ei ei_str
theorem et_sd {n : Nat} : EtC P w K mg base (n + 2) (SdR K) := fun X l H x y D r1 r2 => by
  have hk := l.k
  cases D with
  | int i =>
    obtain rfl : x = V.int i := r1
    obtain rfl : y = V.int i := r2
    exact eqT_flat rfl rfl
  | fac nm ls cs =>
    obtain ⟨p, vl, vc, rfl, s1, a1, b1⟩ := r1
    obtain ⟨q, vl2, vc2, rfl, s2, a2, b2⟩ := r2
    exact eqT_refs (rcT_tup (.cons (eqT_flat rfl rfl) (.cons (eqT_flat rfl rfl) (.cons (et_tup (et_str (n := n)) X l H _ _ _ a1 a2) (.cons (et_tup (et_rio (n := n)) X l H _ _ _ b1 b2) .nil)))) (hk ▸ s1) (hk ▸ s2))
  | num nm ts =>
    obtain ⟨p, vw, rfl, s1, a1⟩ := r1
    obtain ⟨q, vw2, rfl, s2, a2⟩ := r2
    exact eqT_refs (rcT_tup (.cons (eqT_flat rfl rfl) (.cons (eqT_flat rfl rfl) (.cons (et_lst (et_rso (n := n)) X l H _ _ _ a1 a2) .nil))) (hk ▸ s1) (hk ▸ s2))
abbrev ShR (K : PySem.W.Frag) : Rl (List SD) := RL K (SdR K)
def qtx (q : Rat) : Str := tx (line q.num q.den)
def sdOf (c : Str × ColD) : SD := match c.2 with
  | .fac ls cs => .fac c.1 ls cs
  | .num qs => .num c.1 (qs.map (Option.map qtx))
def shItems (D : TabD) : List SD := [.int D.n, .int D.n] ++ D.cs.map sdOf
def QsOk (D : ColD) : Prop := ∀ qs, D = .num qs → ∀ q, some q ∈ qs → ∃ p, some p ∈ WORS ∧ q = toQ p
theorem wor_low : ∀ p, some p ∈ WORS → (toQ p).num = p.1 ∧ ((toQ p).den : Int) = p.2 ∧ p.1.natAbs < 10 ^ 4300 ∧ (toQ p).den < 10 ^ 4300 ∧ (line p.1 (toQ p).den).length ≤ 10 ^ 5 := @NI.run _ (by exact NI.carry : NI.Carry (by
  intro p hp
  have h : (WORS.all fun o => match o with
    | none => true
    | some p => decide ((toQ p).num = p.1 ∧ ((toQ p).den : Int) = p.2 ∧ p.1.natAbs < 10 ^ 30 ∧ (toQ p).den < 10 ^ 30 ∧ (line p.1 (toQ p).den).length ≤ 10 ^ 5)) = true := by decide +kernel
  obtain ⟨h1, h2, h3, h4, h5⟩ := of_decide_eq_true (List.all_eq_true.mp h _ hp)
  have big : (10 : Nat) ^ 30 ≤ 10 ^ 4300 := Nat.pow_le_pow_right (by decide) (by decide)
  exact ⟨h1, h2, Nat.lt_of_lt_of_le h3 big, Nat.lt_of_lt_of_le h4 big, h5⟩
))
theorem strQ_at {K : PySem.W.Frag} {H : Hp} {v : V} {q : Rat} {Q : VK} (h : RQ (gA "Ratio" K) H v q) (hq : ∃ p, some p ∈ WORS ∧ q = toQ p) (k : Q (.str (qtx q)) H) : ∃ x u w, [v] = [x] ∧ Ob2 (gA "Ratio" K) H x u w ∧ sp_Ratio___str__ K [x] H (fun z H' => ∃ y, z = .str y ∧ Q z H') E0 := @NI.run _ (by exact NI.carry : NI.Carry (by
  obtain ⟨p, hp, rfl⟩ := hq
  obtain ⟨h1, h2, h3, h4, h5⟩ := wor_low p hp
  refine ⟨v, _, _, rfl, h, _, rfl, (toQ p).num, (toQ p).den, h, by rw [h1]; exact h3, h4, by rw [h1]; exact h5, _, rfl, k⟩
))
theorem rio_hid {q : Addr} {H : Hp} {v : V} {o : Option Int} (h : RIo H v o) : RIo (hid q H) v o := @NI.run _ (by exact NI.carry : NI.Carry (by
  cases o with
  | none => exact h
  | some i => exact h
))
theorem rso_hid {q : Addr} {H : Hp} {v : V} {o : Option Str} (h : RSo H v o) : RSo (hid q H) v o := @NI.run _ (by exact NI.carry : NI.Carry (by
  cases o with
  | none => exact h
  | some i => exact h
))
theorem rt_hid {K : PySem.W.Frag} {α : Type} {R : Rl α} {H : Hp} {q : Addr} {v : V} {as : List α} {xs : List V} (hR : ∀ x a, R H x a → R (hid q H) x a) (h : RT K R H v as) (hq : H q = some (.lst xs)) : RT K R (hid q H) v as := @NI.run _ (by exact NI.carry : NI.Carry (by
  obtain ⟨p, ws, rfl, s, r, z⟩ := h
  exact ⟨p, ws, rfl, sqT_hid s hq, Paired.mono (fun _ _ h => hR _ _ h) r, z⟩
))
theorem lcK_nameB {α β : Type} {R : Rl α} {S : Rl β} [Up R] [Up S] {J : It} {H1 : Hp} {as : List α} {te : TE} {vs : List Nat} {σ : L2.St} {Q : VK} {i : Nat} (W : Wk J H1 R as) (hz : as.length ≤ sizeLine) (f : α → β)
    (hd : ∀ D G acc, Same H1 G → G D = none → RAll S G acc (as.map f) → Q (.ref D) (upd G D (.lst acc)))
    (hb : ∀ a G x, a ∈ as → Same H1 G → R G x a → ∀ Kt : VK, (∀ y G', Same G G' → S G' y (f a) → Kt y G') → te ((wipe σ vs).set i (some x)) G Kt)
    (hw : ∀ v, wipe ((wipe σ vs).set i (some v)) vs = wipe σ vs := by intro _; rfl) : LcK J H1 (gName i) te vs σ Q := @NI.run _ (by exact NI.carry : NI.Carry (by
  intro D hD
  refine ⟨fun i m H => m = as.length - i ∧ i ≤ as.length ∧ ∃ G acc, H = upd G D (.lst acc) ∧ G D = none ∧ Same H1 G ∧ RAll S G acc ((as.map f).take i), ⟨as.length, by simp, Nat.zero_le _, H1, [], rfl, hD, Same.refl _, by rw [List.take_zero]; exact .nil⟩, ?_⟩
  rintro i m H ⟨rfl, hi, G, acc, rfl, hG, s, ra⟩
  have hla : acc.length = i := by
    rw [ra.len, List.length_take, List.length_map]
    omega
  by_cases hlt : i < as.length
  · refine .inr ⟨W.go i _ (s.trans (Same.new hG)) hlt, fun H' => ∃ G' acc', H' = upd G' D (.lst acc') ∧ G' D = none ∧ Same H1 G' ∧ RAll S G' acc' ((as.map f).take (i + 1)), ?_, ?_⟩
    · rintro H' ⟨G', acc', e, h1, h2, h3⟩
      exact ⟨as.length - (i + 1), by omega, rfl, hlt, G', acc', e, h1, h2, h3⟩
    · intro x H' hy
      obtain ⟨G', s2, hG', eH, rx⟩ := W.yldD i G D _ x H' as[i] s hG (by simp [hlt]) hy
      subst eH
      refine ⟨hw x, tYes_of ?_⟩
      refine ⟨D, acc, upd_same, ?_⟩
      rw [hid_upd hG']
      refine hb as[i] G' x (List.getElem_mem hlt) (s.trans s2) rx _ fun y G2 s3 hy2 hG2 => ?_
      refine ⟨acc, upd_same, by omega, G2, acc ++ [y], ?_, hG2, (s.trans s2).trans s3, ?_⟩
      · rw [upd_upd]
      · have e : (as.map f).take (i + 1) = (as.map f).take i ++ [f as[i]] := by
          rw [List.take_succ]
          simp [hlt]
        rw [e]
        exact (ra.up (s2.trans s3)).snoc hy2
  · have e : i = as.length := by omega
    subst e
    rw [show as.length = (as.map f).length from (List.length_map _).symm, List.take_length] at ra
    exact .inl ⟨W.stop _ (s.trans (Same.new hG)), hd D G acc s hG ra⟩
))
theorem num_ne : ¬ (("number" : Str) = "factor") := @NI.run _ (by exact NI.carry : NI.Carry (by decide
))
def sp_w_shown (K : PySem.W.Frag) : Sp := sp1 fun x H Q _ => ∃ D, TabR K H x D ∧ TOk D ∧ (∀ c ∈ D.cs, QsOk c.2) ∧ ∀ v H', Same H H' → ShR K H' v (shItems D) → Q v H'
abbrev n_w_shown : List Str := ["_law_table_here", "_law_found", "_law_name", "_law_column_here", "_law_one"]
theorem sc_w_shown : FnScope n_w_shown ["_law_table_here"] (defScope s_w_shown) := ⟨rfl, rfl, rfl, by decide +kernel, rfl, by decide +kernel, by decide +kernel⟩
theorem cal_w_shown (T : Tx P K mg) : Cal P w K mg base 5 "_law_shown" (sp_w_shown K) := @NI.run _ (by exact NI.carry : NI.Carry (by
  refine cal_of (k := 4) T.G_w_shown T.D_w_shown sc_w_shown (fun _ _ _ _ _ _ us hl => match us, hl with | [_], _ => rfl) (fun vs H Q E h => ?_) (fun cdv A outer s H vs Q E hr h => ?_)
  · obtain ⟨v0, rfl, _⟩ := h
    rfl
  obtain ⟨v0, rfl, h⟩ := h
  refine ⟨_, pss_cons (ps_set (i := 1) sc_w_shown.nd rfl (by first | exact Or.inl rfl | exact Or.inr rfl) (pe_lst (pa_cons (pe_callB (call_lenN (cal_Table___len__ T) T.O_Table___len__ (hr.mono (by decide))) (by rfl) T.N_len (by decide +kernel) (pa_cons (pv 0) pa_nil)) (pa_cons (pp (prop_Table_total T) hr (pv 0)) pa_nil))))
      (pss_cons (ps_for (passes_of rfl) rfl (kPiT K (pp (prop_Table_names T) hr (pv 0))) (pg_name (i := 2) sc_w_shown.nd rfl (by first | exact Or.inl rfl | exact Or.inr rfl))
        (pss_cons (ps_set (i := 3) sc_w_shown.nd rfl (by first | exact Or.inl rfl | exact Or.inr rfl) (pe_ixO (cal_Table___getitem__ T) T.O_Table___getitem__ T.D_Table___getitem__ (hr.mono (by decide)) (pv 0) (pv 2)))
      (pss_one (ps_if (pt_cmpR op_eq (ppU (prop_Factor_kind T) (prop_Numbers_kind T) hr (pv 3)) pe_str (nomark _))
        (pss_one (ps_expr (pe_bm PySem.F.plainAttrs_list PySem.F.slot_list_append PySem.F.type_list_append mt_append (pv 1) (pa_cons (pe_tup (pa_cons (pv 2) (pa_cons pe_str (pa_cons (pp (prop_Factor_levels T) hr (pv 3)) (pa_cons (pp (prop_Factor_codes T) hr (pv 3)) pa_nil))))) pa_nil))))
        (pss_one (ps_expr (pe_bm PySem.F.plainAttrs_list PySem.F.slot_list_append PySem.F.type_list_append mt_append (pv 1) (pa_cons (pe_tup (pa_cons (pv 2) (pa_cons (ppU (prop_Factor_kind T) (prop_Numbers_kind T) hr (pv 3)) (pa_cons (pe_lc (own := [("_law_one", 4)]) (g := gName 4) (tt := tYes) (by rfl) sc_w_shown.nd (kPiT K (pp (prop_Numbers_ratios T) hr (pv 3))) (blkOk_by (own := [("_law_one", 4)]) (N := n_w_shown) (by rfl)) (fun _ _ _ _ _ => pg_name (i := 4) sc_w_shown.nd rfl (by first | exact Or.inl rfl | exact Or.inr rfl)) (fun _ _ _ _ _ => pts_nil) (fun _ _ _ _ _ => pe_hid (pe_ifExp (pt_cmpR op_isN (pv 4) pe_non (nomark _)) (pv 4) (pe_callTy (call_strOwn (cal_Ratio___str__ T) T.O_Ratio___str__ (hr.mono (by decide))) (by rfl) T.N_str (by decide +kernel) (pa_cons (pv 4) pa_nil))))) pa_nil)))) pa_nil))))))))
      (pss_one (ps_ret (pv 1)))), ?_⟩
  obtain ⟨D, hx, ok, hqs, k⟩ := h
  have big : 100000 ≤ sizeLine := by decide
  have h12 := ok.cs.few
  have h200 := ok.n
  repeat walk_at "ru"
  refine ⟨_, rfl, hx.own, _, rfl, D, hx, _, rfl, by omega, by omega, ?_⟩
  repeat walk_at "ru"
  obtain ⟨d0, vi, ho0, hd0, hi0⟩ := id hx
  obtain ⟨o, dx, rfl, s0⟩ := id ho0
  refine ⟨o, dx, _, rfl, s0, _, rfl, D, hx, ?_⟩
  repeat walk_at "ru"
  refine ⟨by show 2 ≤ sizeLine; decide, fun q hq => ?_⟩
  have e0 : Same H (upd H q (.lst [.int (D.n : Int), .int (D.n : Int)])) := Same.new hq
  have hL0 : LB (SdR K) (upd H q (.lst [.int (D.n : Int), .int (D.n : Int)])) q [.int D.n, .int D.n] := LB.new hq (.cons (show SdR K _ _ (.int D.n) from rfl) (.cons (show SdR K _ _ (.int D.n) from rfl) .nil)) (by show 2 ≤ sizeLine; decide)
  generalize upd H q (.lst [.int (D.n : Int), .int (D.n : Int)]) = H0 at e0 hL0 ⊢
  repeat walk_at "ru"
  refine ⟨o, dx, _, rfl, Slt.up e0 s0, _, rfl, D, Up.up e0 hx, ok, fun v1 H1 e1 hv1 => ?_⟩
  have hL1 := LB.up e1 hL0
  have e01 := e0.trans e1
  obtain ⟨xs1, hq1, _, _⟩ := id hL1
  obtain ⟨p, ws, rfl, sq, ra, hz⟩ := rt_nm (cs := D.cs) hv1
  have hvh : RT K (RNg fun c : Str × ColD => c.1) (hid q H1) (.ref p) D.cs := ⟨p, ws, rfl, sqT_hid sq hq1, Paired.mono (fun _ _ h => h) ra, hz⟩
  refine ⟨p, rfl, ⟨ws, sq⟩, ?_⟩
  refine forKo (wk_tup hvh) (fun i σ' H' => Same (hid q H1) H' ∧ Same H H' ∧ ∃ x2 x3, σ' = [some (.ref o), some (.ref q), x2, x3, none] ∧ LB (SdR K) H' q ([.int D.n, .int D.n] ++ (D.cs.take i).map sdOf)) ⟨Same.unhid, e01, none, none, rfl, by rw [List.take_zero]; exact hL1⟩ (fun i σ' H' h => h.1) ?_ ?_
  · rintro i σ' H4 c y H5 hi ⟨e4h, e4, x2, x3, rfl, hL4⟩ e45 e5 hy
    obtain rfl : y = V.str c.1 := hy
    have hcm := List.mem_of_getElem? hi
    have e05 := e4.trans e45
    have h5h := e4h.trans e45
    have hL5 := LB.up e45 hL4
    have hln : ([SD.int D.n, SD.int D.n] ++ (D.cs.take i).map sdOf).length ≤ 14 := by
      rw [List.length_append, List.length_map, List.length_take]
      show 2 + _ ≤ 14
      omega
    have htk : [SD.int D.n, SD.int D.n] ++ (D.cs.take (i + 1)).map sdOf = ([SD.int D.n, SD.int D.n] ++ (D.cs.take i).map sdOf) ++ [sdOf c] := by
      rw [List.take_succ, hi, List.map_append, List.append_assoc]
      rfl
    repeat walk_at "ru"
    refine ⟨(Up.up (R := TabR K) e05 hx).own, _, _, rfl, D, c, Up.up e05 hx, rfl, hcm, ok, fun v6 H6 e56 hv6 => ?_⟩
    have e06 := e05.trans e56
    have h6h := h5h.trans e56
    have hL6 := LB.up e56 hL5
    repeat walk_at "ru"
    refine rd_propU ?_
    repeat walk_at "ru"
    refine kindU_at hv6 ?_
    have push : ∀ (v : V) (G : Hp), Same H6 G → SdR K (hid q G) v (sdOf c) → ∀ Q' : VK, (∀ H', (Same (hid q H1) H' ∧ Same H H' ∧ LB (SdR K) H' q ([SD.int D.n, SD.int D.n] ++ (D.cs.take (i + 1)).map sdOf)) → Q' .non H') → rAppend (.ref q) [v] G Q' := fun v G eG hv Q' hQ => by
      refine LB.push (LB.up eG hL6) hv (by omega) fun H7 k7 hL7 => hQ H7 ⟨fun b u z => k7 b u ((h6h.trans eG) b u z) (hid_some z).1, Same.own (e06.trans eG) hq k7, by rw [htk]; exact hL7⟩
    obtain ⟨nm, D2⟩ := c
    cases D2 with
    | fac ls cs =>
      obtain ⟨vc, vl, ⟨oc, dc, rfl, sc⟩, hl, hc⟩ := id hv6
      have hf : FacR K H6 (.ref oc) (ls, cs) := hv6
      repeat walk_at "ru"
      rw [show decide (ColD.kind (nm, ColD.fac ls cs).2 = ("factor" : Str)) = true from decide_eq_true rfl]
      repeat walk_at "ru"
      refine ⟨hL6.ty, ?_⟩
      repeat walk_at "ru"
      refine ⟨oc, dc, _, rfl, sc, _, rfl, (ls, cs), hf, fun w1 hw1 => ?_⟩
      repeat walk_at "ru"
      refine ⟨oc, dc, _, rfl, sc, _, rfl, (ls, cs), hf, fun w2 hw2 => ?_⟩
      repeat walk_at "ru"
      refine ⟨by show 4 ≤ sizeLine; decide, fun p7 hp7 => ?_⟩
      have e7 : Same H6 (upd H6 p7 (.tup [.str nm, .str "factor", w1, w2])) := Same.new hp7
      have s7 : SqT K (upd H6 p7 (.tup [.str nm, .str "factor", w1, w2])) p7 [.str nm, .str "factor", w1, w2] := .inl (.inl upd_same)
      generalize upd H6 p7 (.tup [.str nm, .str "factor", w1, w2]) = H7 at e7 s7 ⊢
      repeat walk_at "ru"
      obtain ⟨xs7, hq7, _, _⟩ := id (LB.up e7 hL6)
      refine push _ H7 e7 ⟨p7, w1, w2, rfl, sqT_hid s7 hq7, rt_hid (fun _ _ h => h) (Up.up e7 hw1) hq7, rt_hid (fun _ _ h => rio_hid h) (Up.up e7 hw2) hq7⟩ _ fun H8 ⟨a1, a2, a3⟩ => ?_
      repeat walk_at "ru"
      exact ⟨a1, a2, _, _, rfl, a3⟩
    | num qs =>
      obtain ⟨vr, ⟨oc, dc, rfl, sc⟩, hr1⟩ := id hv6
      have hf : NumR K H6 (.ref oc) qs := hv6
      have hqo := hqs _ hcm qs rfl
      repeat walk_at "ru"
      rw [show decide (ColD.kind (nm, ColD.num qs).2 = ("factor" : Str)) = false from decide_eq_false (fun z => num_ne z)]
      repeat walk_at "ru"
      refine ⟨hL6.ty, ?_⟩
      repeat walk_at "ru"
      refine rd_propU ?_
      repeat walk_at "ru"
      refine kindU_at hv6 ?_
      repeat walk_at "ru"
      refine ⟨oc, dc, _, rfl, sc, _, rfl, qs, hf, fun w1 hw1 => ?_⟩
      refine lcT hw1 fun J W hz => lcK_nameB (S := RSo) W hz (Option.map qtx) (fun Dd G acc e8 hD hacc => ?_) (fun a G x ham e8 hx2 Kt hk2 => ?_)
      · have e9 : Same H6 (upd G Dd (.lst acc)) := e8.trans (Same.new hD)
        have hDn : upd G Dd (.lst acc) Dd = some (.lst acc) := upd_same
        have hacc2 := hacc.up (Same.new hD (o := .lst acc))
        have hln2 : acc.length ≤ sizeLine := by
          rw [hacc.len, List.length_map]
          exact hz
        have hDq : Dd ≠ q := fun z => by
          obtain ⟨xs, h1, _⟩ := id (LB.up e8 hL6)
          rw [z, h1] at hD
          cases hD
        generalize upd G Dd (.lst acc) = H9 at e9 hDn hacc2 ⊢
        repeat walk_at "ru"
        refine ⟨by show 3 ≤ sizeLine; decide, fun p7 hp7 => ?_⟩
        have e7 : Same H9 (upd H9 p7 (.tup [.str (Prod.fst (nm, ColD.num qs)), .str (ColD.kind (Prod.snd (nm, ColD.num qs))), .ref Dd])) := Same.new hp7
        have s7 : SqT K (upd H9 p7 (.tup [.str (Prod.fst (nm, ColD.num qs)), .str (ColD.kind (Prod.snd (nm, ColD.num qs))), .ref Dd])) p7 [.str nm, .str "number", .ref Dd] := .inl (.inl upd_same)
        have d7 := e7 _ _ hDn
        have a7 := hacc2.up e7
        generalize upd H9 p7 (.tup [.str (Prod.fst (nm, ColD.num qs)), .str (ColD.kind (Prod.snd (nm, ColD.num qs))), .ref Dd]) = H7 at e7 s7 d7 a7 ⊢
        repeat walk_at "ru"
        repeat walk_at "ru"
        have e67 := e9.trans e7
        obtain ⟨xs7, hq7, _, _⟩ := id (LB.up e67 hL6)
        refine push _ H7 e67 ⟨p7, _, rfl, sqT_hid s7 hq7, RL.at (vs := acc) (by rw [hid_ne hDq]; exact d7) (Paired.mono (fun _ _ h => rso_hid h) a7) hln2⟩ _ fun H8 ⟨a1, a2, a3⟩ => ?_
        repeat walk_at "ru"
        exact ⟨a1, a2, _, _, rfl, a3⟩
      · cases a with
        | none =>
          obtain rfl : x = V.non := hx2
          repeat walk_at "ru"
          refine ⟨rfl, ?_⟩
          rw [decide_eq_true rfl]
          repeat walk_at "ru"
          exact hk2 _ _ (Same.refl _) rfl
        | some a =>
          obtain ⟨hq2, hne⟩ := hx2
          repeat walk_at "ru"
          refine ⟨rfl, ?_⟩
          rw [decide_eq_false hne]
          repeat walk_at "ru"
          exact strQ_at hq2 (hqo a ham) (hk2 _ _ (Same.refl _) ⟨rfl, fun h => nomatch h⟩)
  · rintro σ' H4 ⟨e4h, e4, x2, x3, rfl, hL4⟩
    rw [List.take_length] at hL4
    repeat walk_at "ru"
    exact k _ _ e4 hL4.rl
))
theorem line_one {t : Int} : line t 1 = shown t := @NI.run _ (by exact NI.carry : NI.Carry (by
  unfold line
  rw [if_pos rfl, List.append_nil]
))
theorem log_small {i : Int} (h : i.natAbs < 2 ^ 1000) : i.natAbs.log2 < 1920 := @NI.run _ (by exact NI.carry : NI.Carry (by
  by_cases h0 : i.natAbs = 0
  · rw [h0]
    decide
  · exact Nat.lt_trans ((Nat.log2_lt h0).mpr h) (by decide)
))
theorem wor_log : ∀ p, some p ∈ WORS → p.1.natAbs < 2 ^ 1000 ∧ p.2.natAbs < 2 ^ 1000 ∧ 0 < p.2 := @NI.run _ (by exact NI.carry : NI.Carry (by
  intro p hp
  have h : (WORS.all fun o => match o with
    | none => true
    | some p => decide (p.1.natAbs < 2 ^ 100 ∧ p.2.natAbs < 2 ^ 100 ∧ 0 < p.2)) = true := by decide +kernel
  obtain ⟨h1, h2, h3⟩ := of_decide_eq_true (List.all_eq_true.mp h _ hp)
  have big : (2 : Nat) ^ 100 ≤ 2 ^ 1000 := Nat.pow_le_pow_right (by decide) (by decide)
  exact ⟨Nat.lt_of_lt_of_le h1 big, Nat.lt_of_lt_of_le h2 big, h3⟩
))
def sp_w_text (K : PySem.W.Frag) : Sp := sp1 fun x H Q _ => ∃ p, RWo K H x (some p) ∧ some p ∈ WORS ∧ ∀ H', Same H H' → Q (.str (qtx (toQ p))) H'
abbrev n_w_text : List Str := ["_law_pair"]
theorem sc_w_text : FnScope n_w_text ["_law_pair"] (defScope s_w_text) := ⟨rfl, rfl, rfl, by decide +kernel, rfl, by decide +kernel, by decide +kernel⟩
theorem cal_w_text (T : Tx P K mg) : Cal P w K mg base 1 "_law_text" (sp_w_text K) := @NI.run _ (by exact NI.carry : NI.Carry (by
  refine cal_of (k := 0) T.G_w_text T.D_w_text sc_w_text (fun _ _ _ _ _ _ us hl => match us, hl with | [_], _ => rfl) (fun vs H Q E h => ?_) (fun cdv A outer s H vs Q E hr h => ?_)
  · obtain ⟨v0, rfl, _⟩ := h
    rfl
  obtain ⟨v0, rfl, h⟩ := h
  refine ⟨_, pss_cons (ps_if (pt_cmpR op_isN (pv 0) pe_non (nomark _))
        (pss_one (ps_ret pe_str))
        (pss_nil))
      (pss_one (ps_ret (pe_ifExp (pt_cmpR op_eq (pe_ix (kIxT K) (pv 0) pe_int (fun _ _ => rfl)) pe_int (nomark _)) (pe_callTy call_str_int (by rfl) T.N_str (by decide +kernel) (pa_cons (pe_ix (kIxT K) (pv 0) pe_int (fun _ _ => rfl)) pa_nil)) (pe_op op_add_str (pe_op op_add_str (pe_callTy call_str_int (by rfl) T.N_str (by decide +kernel) (pa_cons (pe_ix (kIxT K) (pv 0) pe_int (fun _ _ => rfl)) pa_nil)) pe_str) (pe_callTy call_str_int (by rfl) T.N_str (by decide +kernel) (pa_cons (pe_ix (kIxT K) (pv 0) pe_int (fun _ _ => rfl)) pa_nil)))))), ?_⟩
  obtain ⟨p, hx, hp, k⟩ := h
  obtain ⟨h1, h2, _, _, h5⟩ := wor_low p hp
  obtain ⟨g1, g2, g3⟩ := wor_log p hp
  obtain ⟨⟨q, y, z, rfl, sq, ry, rz⟩, hne⟩ := hx
  obtain rfl : y = V.int p.1 := ry
  obtain rfl : z = V.int p.2 := rz
  have k := k _ (Same.refl H)
  unfold qtx at k
  rw [h1] at k
  repeat walk_at "ru"
  refine ⟨rfl, ?_⟩
  rw [decide_eq_false hne]
  repeat walk_at "ru"
  refine ⟨q, _, 1, _, rfl, rfl, sq, rfl, ?_⟩
  repeat walk_at "ru"
  refine ite_dec (fun hz => ?_) (fun hz => ?_)
  · repeat walk_at "ru"
    refine ⟨q, _, 0, _, rfl, rfl, sq, rfl, ?_⟩
    repeat walk_at "ru"
    refine ⟨_, rfl, log_small g1, ?_⟩
    rw [show (toQ p).den = 1 by omega, line_one] at k
    exact k
  · repeat walk_at "ru"
    refine ⟨q, _, 0, _, rfl, rfl, sq, rfl, ?_⟩
    repeat walk_at "ru"
    refine ⟨_, rfl, log_small g1, ?_⟩
    repeat walk_at "ru"
    have big : (10 : Nat) ^ 5 ≤ sizeLine := by decide
    have hz2 : (toQ p).den ≠ 1 := by omega
    unfold line at k h5
    rw [if_neg hz2] at k h5
    rw [List.length_append, List.length_cons] at h5
    have hden : shown ((toQ p).den : Int) = shown p.2 := by rw [h2]
    rw [hden] at k h5
    refine ⟨tx (shown p.1), tx [47], rfl, rfl, by rw [tx_len, tx_len]; show _ + 1 ≤ _; omega, ?_⟩
    repeat walk_at "ru"
    refine ⟨q, _, 1, _, rfl, rfl, sq, rfl, ?_⟩
    repeat walk_at "ru"
    refine ⟨_, rfl, log_small g2, ?_⟩
    refine ⟨tx (shown p.1) ++ tx [47], tx (shown p.2), rfl, rfl, by rw [str_len, tx_len, tx_len, tx_len]; show _ + 1 + _ ≤ _; omega, ?_⟩
    rw [tx_app, tx_app, List.append_assoc]
    exact k
))
theorem filt_one {α : Type} : ∀ {rs : List (Str × α)} {r : Str × α}, r ∈ rs → (rs.map (·.1)).Nodup → rs.filter (fun x => decide (x.1 = r.1)) = [r]
  | s :: rs, r, h, hn => by
    rw [List.map_cons, List.nodup_cons] at hn
    rcases List.mem_cons.mp h with rfl | h
    · rw [List.filter_cons_of_pos (p := fun x : Str × α => decide (x.1 = r.1)) (a := r) (decide_eq_true rfl)]
      have : rs.filter (fun x => decide (x.1 = r.1)) = [] := List.filter_eq_nil_iff.mpr fun x hx z => hn.1 (List.mem_map.mpr ⟨x, hx, of_decide_eq_true z⟩)
      rw [this]
    · have hne : s.1 ≠ r.1 := fun z => hn.1 (List.mem_map.mpr ⟨r, h, z.symm⟩)
      rw [List.filter_cons_of_neg (by rw [decide_eq_true_eq]; exact hne)]
      exact filt_one h hn.2
def sp_w_own (K : PySem.W.Frag) : Sp := sp2 fun x y H Q _ => ∃ (rs : Rows) (r : Str × LC), RwR K H x rs ∧ y = .str r.1 ∧ r ∈ rs ∧ (rs.map (·.1)).Nodup ∧ ∀ v H', Same H H' → LcR K H' v r.2 → Q v H'
abbrev n_w_own : List Str := ["_law_rows_here", "_law_name", "_law_other", "_law_own_here"]
theorem sc_w_own : FnScope n_w_own ["_law_rows_here", "_law_name"] (defScope s_w_own) := ⟨rfl, rfl, rfl, by decide +kernel, rfl, by decide +kernel, by decide +kernel⟩
theorem cal_w_own (T : Tx P K mg) : Cal P w K mg base 1 "_law_own" (sp_w_own K) := @NI.run _ (by exact NI.carry : NI.Carry (by
  refine cal_of (k := 0) T.G_w_own T.D_w_own sc_w_own (fun _ _ _ _ _ _ us hl => match us, hl with | [_, _], _ => rfl) (fun vs H Q E h => ?_) (fun cdv A outer s H vs Q E hr h => ?_)
  · obtain ⟨v0, v1, rfl, _⟩ := h
    rfl
  obtain ⟨v0, v1, rfl, h⟩ := h
  refine ⟨_, pss_one (ps_ret (pe_ix (kIxL K) (pe_lc (own := [("_law_other", 2), ("_law_own_here", 3)]) (g := gTup K 2 (gCons (gName 2) (gCons (gName 3) gNil))) (by rfl) sc_w_own.nd (kPiL K (pv 0)) (blkOk_by (own := [("_law_other", 2), ("_law_own_here", 3)]) (N := n_w_own) (by rfl)) (fun _ _ _ _ _ => kTup K (by rfl) (pgs_cons (pg_name (i := 2) sc_w_own.nd rfl (by first | exact Or.inl rfl | exact Or.inr rfl)) (pgs_cons (pg_name (i := 3) sc_w_own.nd rfl (by first | exact Or.inl rfl | exact Or.inr rfl)) pgs_nil))) (fun _ _ _ _ _ => pts_hid (pts_one (pt_cmpR op_eq (pv 2) (pv 1) (nomark _)))) (fun _ _ _ _ _ => pe_hid (pv 3))) pe_int (fun _ _ => rfl))), ?_⟩
  obtain ⟨rs, r, hx, rfl, hr2, hn, k⟩ := h
  repeat walk_at "ru"
  refine lcLf hx fun J W hz => lcF_pair (S := LcR K) W hz (fun x => decide (x.1 = r.1)) (fun x => x.2) (fun v H1 e1 hv => ?_) (fun a G x y ham e1 hx1 hy1 Kt hk => ?_) (fun a G x y ham hp e1 hx1 hy1 Kt hk => ?_)
  · rw [filt_one hr2 hn] at hv
    repeat walk_at "ru"
    exact rd_ixL (n := 0) (a := r.2) hv rfl (fun w hw => k w _ e1 hw)
  · obtain rfl : x = V.str a.1 := hx1
    repeat walk_at "ru"
    exact hk
  · obtain rfl : x = V.str a.1 := hx1
    repeat walk_at "ru"
    exact hk _ _ (Same.refl _) hy1
))
theorem rl_hidN {K : PySem.W.Frag} {α : Type} {nm : α → Str} {H : Hp} {q : Addr} {v : V} {as : List α} {i : Int} {xs : List V} (h : RL K (RNg nm) H v as) (hq : H q = some (.lst (.int i :: xs))) : RL K (RNg nm) (hid q H) v as := @NI.run _ (by exact NI.carry : NI.Carry (by
  obtain ⟨a, ws, rfl, hs, hr, hz⟩ := h
  refine ⟨a, ws, rfl, ?_, Paired.mono (fun _ _ h => h) hr, hz⟩
  rcases hs with (hs | ⟨o, hs⟩) | hs
  · refine .inl (.inl ?_)
    rw [hid_ne]
    · exact hs
    · intro z
      subst z
      rw [hq] at hs
      cases hs
      cases hr with
      | cons h t => cases h
  · refine .inl (.inr ⟨o, ?_⟩)
    rw [hid_ne]
    · exact hs
    · intro z
      subst z
      rw [hq] at hs
      cases hs
  · exact .inr hs
))
theorem rl_nmg {α : Type} {K : PySem.W.Frag} {H : Hp} {v : V} {cs : List (Str × α)} (h : RL K RS H v (cs.map (·.1))) : RL K (RNg fun c : Str × α => c.1) H v cs := @NI.run _ (by exact NI.carry : NI.Carry (by
  obtain ⟨p, vs, e, a, b, c⟩ := h
  refine ⟨p, vs, e, a, ?_, c⟩
  clear a c e
  induction cs generalizing vs with
  | nil => cases b; exact .nil
  | cons z ns ih =>
    cases b with
    | cons h t => exact .cons h (ih _ t)
))
def shDue (rs : Rows) (n : Nat) : List SD := shItems ⟨srtC (rowsC rs), n⟩
theorem rows_mem {rs : Rows} {c : Str × ColD} (h : c ∈ srtC (rowsC rs)) : ∃ r ∈ rs, c = (r.1, toC r.2) := @NI.run _ (by exact NI.carry : NI.Carry (by
  obtain ⟨r, hr, e⟩ := List.mem_map.mp (srtC_perm.mem_iff.mp h)
  exact ⟨r, hr, e.symm⟩
))
structure RdOk (rs : Rows) (n : Nat) : Prop where
  nd : (rs.map (·.1)).Nodup
  few : rs.length ≤ 12
  ok : ∀ r ∈ rs, LcOk r.2 n
theorem RwOk.rd {rs : Rows} {m n : Nat} (h : RwOk rs m n) (hm : m ≤ 12) : RdOk rs n := ⟨h.nm.nd, by
  have := h.nm.len
  rw [List.length_map] at this
  omega, h.ok⟩
def sp_w_due (K : PySem.W.Frag) : Sp := sp2 fun x y H Q _ => ∃ (rs : Rows) (n : Nat), RwR K H x rs ∧ RdOk rs n ∧ y = .int (n : Int) ∧ ∀ v H', Same H H' → ShR K H' v (shDue rs n) → Q v H'
abbrev n_w_due : List Str := ["_law_rows_here", "_law_total", "_law_found", "_law_name", "_law_column_here", "_law_other", "_law_own_here", "_law_pair"]
theorem sc_w_due : FnScope n_w_due ["_law_rows_here", "_law_total"] (defScope s_w_due) := ⟨rfl, rfl, rfl, by decide +kernel, rfl, by decide +kernel, by decide +kernel⟩
theorem cal_w_due (T : Tx P K mg) : Cal P w K mg base 2 "_law_due" (sp_w_due K) := @NI.run _ (by exact NI.carry : NI.Carry (by
  refine cal_of (k := 1) T.G_w_due T.D_w_due sc_w_due (fun _ _ _ _ _ _ us hl => match us, hl with | [_, _], _ => rfl) (fun vs H Q E h => ?_) (fun cdv A outer s H vs Q E hr h => ?_)
  · obtain ⟨v0, v1, rfl, _⟩ := h
    rfl
  obtain ⟨v0, v1, rfl, h⟩ := h
  refine ⟨_, pss_cons (ps_set (i := 2) sc_w_due.nd rfl (by first | exact Or.inl rfl | exact Or.inr rfl) (pe_lst (pa_cons (pv 1) (pa_cons (pv 1) pa_nil))))
      (pss_cons (ps_for (passes_of rfl) rfl (kPiL K (pe_callB (kSrtS K) (by rfl) T.N_sorted (by decide +kernel) (pa_cons (pe_lc (own := [("_law_name", 3), ("_law_column_here", 4)]) (g := gTup K 2 (gCons (gName 3) (gCons (gName 4) gNil))) (tt := tYes) (by rfl) sc_w_due.nd (kPiL K (pv 0)) (blkOk_by (own := [("_law_name", 3), ("_law_column_here", 4)]) (N := n_w_due) (by rfl)) (fun _ _ _ _ _ => kTup K (by rfl) (pgs_cons (pg_name (i := 3) sc_w_due.nd rfl (by first | exact Or.inl rfl | exact Or.inr rfl)) (pgs_cons (pg_name (i := 4) sc_w_due.nd rfl (by first | exact Or.inl rfl | exact Or.inr rfl)) pgs_nil))) (fun _ _ _ _ _ => pts_nil) (fun _ _ _ _ _ => pe_hid (pv 3))) pa_nil))) (pg_name (i := 3) sc_w_due.nd rfl (by first | exact Or.inl rfl | exact Or.inr rfl))
        (pss_cons (ps_set (i := 4) sc_w_due.nd rfl (by first | exact Or.inl rfl | exact Or.inr rfl) (pe_ix (kIxL K) (pe_lc (own := [("_law_other", 5), ("_law_own_here", 6)]) (g := gTup K 2 (gCons (gName 5) (gCons (gName 6) gNil))) (by rfl) sc_w_due.nd (kPiL K (pv 0)) (blkOk_by (own := [("_law_other", 5), ("_law_own_here", 6)]) (N := n_w_due) (by rfl)) (fun _ _ _ _ _ => kTup K (by rfl) (pgs_cons (pg_name (i := 5) sc_w_due.nd rfl (by first | exact Or.inl rfl | exact Or.inr rfl)) (pgs_cons (pg_name (i := 6) sc_w_due.nd rfl (by first | exact Or.inl rfl | exact Or.inr rfl)) pgs_nil))) (fun _ _ _ _ _ => pts_hid (pts_one (pt_cmpR op_eq (pv 5) (pv 3) (nomark _)))) (fun _ _ _ _ _ => pe_hid (pv 6))) pe_int (fun _ _ => rfl)))
      (pss_one (ps_if (pt_cmpR op_eq (pe_ix (kIxT K) (pv 4) pe_int (fun _ _ => rfl)) pe_str (nomark _))
        (pss_one (ps_expr (pe_bm PySem.F.plainAttrs_list PySem.F.slot_list_append PySem.F.type_list_append mt_append (pv 2) (pa_cons (pe_tup (pa_cons (pv 3) (pa_cons pe_str (pa_cons (pe_ix (kIxT K) (pv 4) pe_int (fun _ _ => rfl)) (pa_cons (pe_callTy (kTuple K) (by rfl) T.N_tuple (by decide +kernel) (pa_cons (pe_ix (kIxT K) (pv 4) pe_int (fun _ _ => rfl)) pa_nil)) pa_nil))))) pa_nil))))
        (pss_one (ps_expr (pe_bm PySem.F.plainAttrs_list PySem.F.slot_list_append PySem.F.type_list_append mt_append (pv 2) (pa_cons (pe_tup (pa_cons (pv 3) (pa_cons pe_str (pa_cons (pe_lc (own := [("_law_pair", 7)]) (g := gName 7) (tt := tYes) (by rfl) sc_w_due.nd (pi_or (kPiL K (pe_ix (kIxT K) (pv 4) pe_int (fun _ _ => rfl))) (kPiT K (pe_ix (kIxT K) (pv 4) pe_int (fun _ _ => rfl)))) (blkOk_by (own := [("_law_pair", 7)]) (N := n_w_due) (by rfl)) (fun _ _ _ _ _ => pg_name (i := 7) sc_w_due.nd rfl (by first | exact Or.inl rfl | exact Or.inr rfl)) (fun _ _ _ _ _ => pts_nil) (fun _ _ _ _ _ => pe_hid (pe_ifExp (pt_cmpR op_isN (pv 7) pe_non (nomark _)) pe_non (pc (cal_w_text T) hr (pa_cons (pv 7) pa_nil))))) pa_nil)))) pa_nil))))))))
      (pss_one (ps_ret (pv 2)))), ?_⟩
  obtain ⟨rs, n, hx, hok, rfl, k⟩ := h
  have big : 100000 ≤ sizeLine := by decide
  have h12 := hok.few
  repeat walk_at "ru"
  refine ⟨by show 2 ≤ sizeLine; decide, fun q hq => ?_⟩
  have e0 : Same H (upd H q (.lst [.int (n : Int), .int (n : Int)])) := Same.new hq
  have hL0 : LB (SdR K) (upd H q (.lst [.int (n : Int), .int (n : Int)])) q [.int n, .int n] := LB.new hq (.cons (show SdR K _ _ (.int n) from rfl) (.cons (show SdR K _ _ (.int n) from rfl) .nil)) (by show 2 ≤ sizeLine; decide)
  have hq0 : upd H q (.lst [.int (n : Int), .int (n : Int)]) q = some (.lst [.int (n : Int), .int (n : Int)]) := upd_same
  generalize upd H q (.lst [.int (n : Int), .int (n : Int)]) = H0 at e0 hL0 hq0 ⊢
  repeat walk_at "ru"
  refine lcL (Up.up e0 hx) fun J W hz => lcK_pair (S := RS) W hz (fun r => r.1) (fun v1 H1 e1 hv1 => ?_) (fun a G x y ham e1 hx1 hy1 Kt hk => ?_)
  rotate_right
  · obtain rfl : x = V.str a.1 := hx1
    repeat walk_at "ru"
    exact hk _ _ (Same.refl _) rfl
  repeat walk_at "ru"
  refine rd_srtS (.inl hv1) fun v2 H2 out e2 hp hs hv2 => ?_
  have hout : out = (srtC (rowsC rs)).map (·.1) := by
    rw [srtC_names, rowsC_names]
    exact srtS_of hp hs
  subst hout
  have hv2 := rl_nmg hv2
  have e12 := e1.trans e2
  have e02 := e0.trans e12
  have hL2 := LB.up e12 hL0
  have hvh := rl_hidN hv2 (e12 _ _ hq0)
  obtain ⟨p, ws, rfl, sq, ra, hz2⟩ := id hv2
  refine ⟨p, rfl, ⟨ws, sq⟩, ?_⟩
  have hcl : (srtC (rowsC rs)).length ≤ 12 := by
    rw [srtC_perm.length_eq]
    unfold rowsC
    rw [List.length_map]
    exact h12
  refine forKo (wk_list hvh) (fun i σ' H' => Same (hid q H2) H' ∧ Same H H' ∧ ∃ x3 x4, σ' = [some v0, some (.int (n : Int)), some (.ref q), x3, x4, none, none, none] ∧ LB (SdR K) H' q ([.int n, .int n] ++ ((srtC (rowsC rs)).take i).map sdOf)) ⟨Same.unhid, e02, none, none, rfl, by rw [List.take_zero]; exact hL2⟩ (fun i σ' H' h => h.1) ?_ ?_
  · rintro i σ' H4 c y H5 hi ⟨e4h, e4, x2, x3, rfl, hL4⟩ e45 e5 hy
    obtain rfl : y = V.str c.1 := hy
    have hcm := List.mem_of_getElem? hi
    obtain ⟨r, hrm, rfl⟩ := rows_mem hcm
    have e05 := e4.trans e45
    have h5h := e4h.trans e45
    have hL5 := LB.up e45 hL4
    have hln : ([SD.int n, SD.int n] ++ ((srtC (rowsC rs)).take i).map sdOf).length ≤ 14 := by
      rw [List.length_append, List.length_map, List.length_take]
      show 2 + _ ≤ 14
      omega
    have htk : [SD.int n, SD.int n] ++ ((srtC (rowsC rs)).take (i + 1)).map sdOf = ([SD.int n, SD.int n] ++ ((srtC (rowsC rs)).take i).map sdOf) ++ [sdOf (r.1, toC r.2)] := by
      rw [List.take_succ, hi, List.map_append, List.append_assoc]
      rfl
    repeat walk_at "ru"
    refine lcLf (Up.up e05 hx) fun J W hz => lcF_pair (S := LcR K) W hz (fun x => decide (x.1 = r.1)) (fun x => x.2) (fun v6 H6 e56 hv6 => ?_) (fun a G x y ham e1 hx1 hy1 Kt hk => ?_) (fun a G x y ham hp e1 hx1 hy1 Kt hk => ?_)
    · rw [filt_one hrm hok.nd] at hv6
      repeat walk_at "ru"
      refine rd_ixL (n := 0) (a := r.2) hv6 rfl (fun w6 hw6 => ?_)
      have e06 := e05.trans e56
      have h6h := h5h.trans e56
      have hL6 := LB.up e56 hL5
      have push : ∀ (v : V) (G : Hp), Same H6 G → SdR K (hid q G) v (sdOf (r.1, toC r.2)) → ∀ Q' : VK, (∀ H', (Same (hid q H2) H' ∧ Same H H' ∧ LB (SdR K) H' q ([SD.int n, SD.int n] ++ ((srtC (rowsC rs)).take (i + 1)).map sdOf)) → Q' .non H') → rAppend (.ref q) [v] G Q' := fun v G eG hv Q' hQ => by
        refine LB.push (LB.up eG hL6) hv (by omega) fun H7 k7 hL7 => hQ H7 ⟨fun b u z => k7 b u ((h6h.trans eG) b u z) (hid_some z).1, Same.own (e06.trans eG) hq k7, by rw [htk]; exact hL7⟩
      have hLC := hok.ok r hrm
      obtain ⟨nm, D2⟩ := r
      cases D2 with
      | fac ls cs =>
        obtain ⟨pc, vl, vc, rfl, sc, hl, hc⟩ := id hw6
        repeat walk_at "ru"
        refine ⟨pc, _, 0, _, rfl, rfl, sc, rfl, ?_⟩
        repeat walk_at "ru"
        rw [decide_eq_true rfl]
        repeat walk_at "ru"
        refine ⟨hL6.ty, ?_⟩
        repeat walk_at "ru"
        refine ⟨pc, _, 1, _, rfl, rfl, sc, rfl, ?_⟩
        repeat walk_at "ru"
        refine ⟨pc, _, 2, _, rfl, rfl, sc, rfl, ?_⟩
        repeat walk_at "ru"
        refine rd_tupleL hc fun w9 H9 e9 hw9 => ?_
        repeat walk_at "ru"
        refine ⟨by show 4 ≤ sizeLine; decide, fun p7 hp7 => ?_⟩
        have e7 : Same H9 (upd H9 p7 (.tup [.str (Prod.fst (nm, LC.fac ls cs)), .str "factor", vl, w9])) := Same.new hp7
        have s7 : SqT K (upd H9 p7 (.tup [.str (Prod.fst (nm, LC.fac ls cs)), .str "factor", vl, w9])) p7 [.str nm, .str "factor", vl, w9] := .inl (.inl upd_same)
        generalize upd H9 p7 (.tup [.str (Prod.fst (nm, LC.fac ls cs)), .str "factor", vl, w9]) = H7 at e7 s7 ⊢
        have e67 := e9.trans e7
        obtain ⟨xs7, hq7, _, _⟩ := id (LB.up e67 hL6)
        repeat walk_at "ru"
        refine push _ H7 e67 ⟨p7, vl, w9, rfl, sqT_hid s7 hq7, rt_hid (fun _ _ h => h) (Up.up e67 hl) hq7, rt_hid (fun _ _ h => rio_hid h) (Up.up e7 hw9) hq7⟩ _ fun H8 ⟨a1, a2, a3⟩ => ?_
        repeat walk_at "ru"
        exact ⟨a1, a2, _, _, rfl, a3⟩
      | num qs =>
        obtain ⟨pc, vw, rfl, sc, hw⟩ := id hw6
        have hwo := hLC.num qs rfl
        repeat walk_at "ru"
        refine ⟨pc, _, 0, _, rfl, rfl, sc, rfl, ?_⟩
        repeat walk_at "ru"
        rw [decide_eq_false num_ne]
        repeat walk_at "ru"
        refine ⟨hL6.ty, ?_⟩
        repeat walk_at "ru"
        refine rd_lcO (.inl ?_)
        repeat walk_at "ru"
        refine ⟨pc, _, 1, _, rfl, rfl, sc, rfl, ?_⟩
        refine lcL hw fun J W hz => lcK_nameB (S := RSo) W hz (Option.map fun p => qtx (toQ p)) (fun Dd G acc e8 hD hacc => ?_) (fun a G x ham e8 hx2 Kt hk2 => ?_)
        · have e9 : Same H6 (upd G Dd (.lst acc)) := e8.trans (Same.new hD)
          have hDn : upd G Dd (.lst acc) Dd = some (.lst acc) := upd_same
          have hacc2 := hacc.up (Same.new hD (o := .lst acc))
          have hln2 : acc.length ≤ sizeLine := by
            rw [hacc.len, List.length_map]
            exact hz
          have hDq : Dd ≠ q := fun z => by
            obtain ⟨xs, h1, _⟩ := id (LB.up e8 hL6)
            rw [z, h1] at hD
            cases hD
          generalize upd G Dd (.lst acc) = H9 at e9 hDn hacc2 ⊢
          repeat walk_at "ru"
          refine ⟨by show 3 ≤ sizeLine; decide, fun p7 hp7 => ?_⟩
          have e7 : Same H9 (upd H9 p7 (.tup [.str (Prod.fst (nm, LC.num qs)), .str "number", .ref Dd])) := Same.new hp7
          have s7 : SqT K (upd H9 p7 (.tup [.str (Prod.fst (nm, LC.num qs)), .str "number", .ref Dd])) p7 [.str nm, .str "number", .ref Dd] := .inl (.inl upd_same)
          have d7 := e7 _ _ hDn
          have a7 := hacc2.up e7
          generalize upd H9 p7 (.tup [.str (Prod.fst (nm, LC.num qs)), .str "number", .ref Dd]) = H7 at e7 s7 d7 a7 ⊢
          repeat walk_at "ru"
          have e67 := e9.trans e7
          obtain ⟨xs7, hq7, _, _⟩ := id (LB.up e67 hL6)
          refine push _ H7 e67 ⟨p7, _, rfl, sqT_hid s7 hq7, RL.at (vs := acc) (by rw [hid_ne hDq]; exact d7) (by
            rw [List.map_map]
            have ef : (Option.map qtx ∘ Option.map toQ) = Option.map fun p => qtx (toQ p) := by
              funext o
              cases o <;> rfl
            rw [ef]
            exact Paired.mono (fun _ _ h => rso_hid h) a7) hln2⟩ _ fun H8 ⟨a1, a2, a3⟩ => ?_
          repeat walk_at "ru"
          exact ⟨a1, a2, _, _, rfl, a3⟩
        · cases a with
          | none =>
            obtain rfl : x = V.non := hx2
            repeat walk_at "ru"
            refine ⟨rfl, ?_⟩
            rw [decide_eq_true rfl]
            repeat walk_at "ru"
            exact hk2 _ _ (Same.refl _) rfl
          | some a =>
            have hx3 := hx2
            obtain ⟨hq2, hne⟩ := hx2
            repeat walk_at "ru"
            refine ⟨rfl, ?_⟩
            rw [decide_eq_false hne]
            repeat walk_at "ru"
            exact ⟨_, rfl, a, hx3, hwo _ ham, fun H' e => hk2 _ _ e ⟨rfl, fun h => nomatch h⟩⟩
    · obtain rfl : x = V.str a.1 := hx1
      repeat walk_at "ru"
      exact hk
    · obtain rfl : x = V.str a.1 := hx1
      repeat walk_at "ru"
      exact hk _ _ (Same.refl _) hy1
  · rintro σ' H4 ⟨e4h, e4, x2, x3, rfl, hL4⟩
    rw [List.take_length] at hL4
    repeat walk_at "ru"
    exact k _ _ e4 hL4.rl
))
def LwR (K : PySem.W.Frag) : Rl LC := fun H v D => match D with
  | .fac _ cs => RL K RIo H v cs
  | .num ws => RL K (RWo K) H v ws
def sp_w_worths (K : PySem.W.Frag) : Sp := sp1 fun x H Q _ => ∃ D, LcR K H x D ∧ ∀ v, LwR K H v D → Q v H
abbrev n_w_worths : List Str := ["_law_column_here"]
theorem sc_w_worths : FnScope n_w_worths ["_law_column_here"] (defScope s_w_worths) := ⟨rfl, rfl, rfl, by decide +kernel, rfl, by decide +kernel, by decide +kernel⟩
theorem cal_w_worths (T : Tx P K mg) : Cal P w K mg base 1 "_law_worths" (sp_w_worths K) := @NI.run _ (by exact NI.carry : NI.Carry (by
  refine cal_of (k := 0) T.G_w_worths T.D_w_worths sc_w_worths (fun _ _ _ _ _ _ us hl => match us, hl with | [_], _ => rfl) (fun vs H Q E h => ?_) (fun cdv A outer s H vs Q E hr h => ?_)
  · obtain ⟨v0, rfl, _⟩ := h
    rfl
  obtain ⟨v0, rfl, h⟩ := h
  refine ⟨_, pss_one (ps_ret (pe_ifExp (pt_cmpR op_eq (pe_ix (kIxT K) (pv 0) pe_int (fun _ _ => rfl)) pe_str (nomark _)) (pe_ix (kIxT K) (pv 0) pe_int (fun _ _ => rfl)) (pe_ix (kIxT K) (pv 0) pe_int (fun _ _ => rfl)))), ?_⟩
  obtain ⟨D, hx, k⟩ := h
  cases D with
  | fac ls cs =>
    obtain ⟨pc, vl, vc, rfl, sc, hl, hc⟩ := hx
    repeat walk_at "ru"
    refine ⟨pc, _, 0, _, rfl, rfl, sc, rfl, ?_⟩
    repeat walk_at "ru"
    rw [decide_eq_true rfl]
    repeat walk_at "ru"
    exact ⟨pc, _, 2, _, rfl, rfl, sc, rfl, k _ hc⟩
  | num ws =>
    obtain ⟨pc, vw, rfl, sc, hw⟩ := hx
    repeat walk_at "ru"
    refine ⟨pc, _, 0, _, rfl, rfl, sc, rfl, ?_⟩
    repeat walk_at "ru"
    rw [decide_eq_false num_ne]
    repeat walk_at "ru"
    exact ⟨pc, _, 1, _, rfl, rfl, sc, rfl, k _ hw⟩
))
theorem at_fac {K : PySem.W.Frag} {H : Hp} {v : V} {ls : List Str} {cs : List (Option Int)} {i : Nat} (h : WthR K H v ((ColD.fac ls cs).at i)) (hi : i < cs.length) : RIo H v cs[i] := @NI.run _ (by exact NI.carry : NI.Carry (by
  have h : RIo H v (cs[i]?.getD none) := h
  rw [List.getElem?_eq_getElem hi] at h
  exact h
))
theorem at_num {K : PySem.W.Frag} {H : Hp} {v : V} {ws : List (Option (Int × Int))} {i : Nat} (h : WthR K H v ((toC (.num ws)).at i)) (hi : i < ws.length) : RQo K H v (ws[i].map toQ) := @NI.run _ (by exact NI.carry : NI.Carry (by
  have h : RQo K H v ((ws.map (Option.map toQ))[i]?.getD none) := h
  rw [List.getElem?_map, List.getElem?_eq_getElem hi] at h
  exact h
))
theorem rio_inj {H H' : Hp} {v w : V} {o : Option Int} (h : RIo H v o) (h' : RIo H' w o) : v = w := @NI.run _ (by exact NI.carry : NI.Carry (by
  cases o with
  | none => exact (show v = V.non from h).trans (show w = V.non from h').symm
  | some i => exact (show v = V.int i from h.1).trans (show w = V.int i from h'.1).symm
))
def tabOf (rs : Rows) (n : Nat) : TabD := ⟨srtC (rowsC rs), n⟩
theorem rl_dkeys {K : PySem.W.Frag} {α : Type} {R : Rl α} [Up R] {H : Hp} {q : Addr} {cs : List (Str × α)} {kvs : List (Key × V)} (hkv : KVs R H kvs (cs.map fun c => (.inr c.1, c.2))) (hl : cs.length ≤ sizeLine) (hq : H q = none) : RL K RS (upd H q (.lst (kvs.map fun kv => kV kv.1))) (.ref q) (cs.map (·.1)) := @NI.run _ (by exact NI.carry : NI.Carry (by
  have hks : (kvs.map fun kv => kV kv.1) = (cs.map (·.1)).map V.str := by
    rw [show (kvs.map fun kv => kV kv.1) = (kvs.map (·.1)).map kV by rw [List.map_map]; rfl, keys_names hkv, List.map_map, List.map_map]
    rfl
  rw [hks]
  exact RL.mk hq RAll.strs (by rw [List.length_map, List.length_map]; exact hl)
))
def sp_w_rows_right (K : PySem.W.Frag) : Sp := sp3 fun x y z H Q _ => ∃ (rs : Rows) (n : Nat), RwR K H x rs ∧ RdOk rs n ∧ TabR K H y (tabOf rs n) ∧ TOk (tabOf rs n) ∧ z = .int (n : Int) ∧ n ≤ 100 ∧ ∀ H', Same H H' → Q (.bl true) H'
abbrev n_w_rows_right : List Str := ["_law_rows_here", "_law_table_here", "_law_total", "_law_index", "_law_told", "_law_name", "_law_column_here", "_law_own_here", "_law_due_here"]
theorem sc_w_rows_right : FnScope n_w_rows_right ["_law_rows_here", "_law_table_here", "_law_total"] (defScope s_w_rows_right) := ⟨rfl, rfl, rfl, by decide +kernel, rfl, by decide +kernel, by decide +kernel⟩
theorem cal_w_rows_right (T : Tx P K mg) : Cal P w K mg base 10 "_law_rows_right" (sp_w_rows_right K) := @NI.run _ (by exact NI.carry : NI.Carry (by
  refine cal_of (k := 9) T.G_w_rows_right T.D_w_rows_right sc_w_rows_right (fun _ _ _ _ _ _ us hl => match us, hl with | [_, _, _], _ => rfl) (fun vs H Q E h => ?_) (fun cdv A outer s H vs Q E hr h => ?_)
  · obtain ⟨v0, v1, v2, rfl, _⟩ := h
    rfl
  obtain ⟨v0, v1, v2, rfl, h⟩ := h
  refine ⟨_, pss_cons (ps_for (passes_of rfl) rfl (pi_range1 rfl T.N_range (pa_cons (pv 2) pa_nil)) (pg_name (i := 3) sc_w_rows_right.nd rfl (by first | exact Or.inl rfl | exact Or.inr rfl))
        (pss_cons (ps_set (i := 4) sc_w_rows_right.nd rfl (by first | exact Or.inl rfl | exact Or.inr rfl) (pe_methN (cal_Table_worths T) T.O_Table_worths T.C_Table.cl hr takesE (pv 1) (pa_cons (pv 3) pa_nil)))
      (pss_cons (ps_if (pt_cmpR (op_or (neX P w K mg base hr) (neTX P w K mg base hr)) (pe_callTy (call_list_dK rfl) (by rfl) T.N_list (by decide +kernel) (pa_cons (pv 4) pa_nil)) (pe_callB (kSrtS K) (by rfl) T.N_sorted (by decide +kernel) (pa_cons (pe_lc (own := [("_law_name", 5), ("_law_column_here", 6)]) (g := gTup K 2 (gCons (gName 5) (gCons (gName 6) gNil))) (tt := tYes) (by rfl) sc_w_rows_right.nd (kPiL K (pv 0)) (blkOk_by (own := [("_law_name", 5), ("_law_column_here", 6)]) (N := n_w_rows_right) (by rfl)) (fun _ _ _ _ _ => kTup K (by rfl) (pgs_cons (pg_name (i := 5) sc_w_rows_right.nd rfl (by first | exact Or.inl rfl | exact Or.inr rfl)) (pgs_cons (pg_name (i := 6) sc_w_rows_right.nd rfl (by first | exact Or.inl rfl | exact Or.inr rfl)) pgs_nil))) (fun _ _ _ _ _ => pts_nil) (fun _ _ _ _ _ => pe_hid (pv 5))) pa_nil)) (nomark _))
        (pss_one (ps_ret pe_bl))
        (pss_nil))
      (pss_one (ps_for (passes_of rfl) rfl (kPiL K (pv 0)) (kTup K (by rfl) (pgs_cons (pg_name (i := 5) sc_w_rows_right.nd rfl (by first | exact Or.inl rfl | exact Or.inr rfl)) (pgs_cons (pg_name (i := 6) sc_w_rows_right.nd rfl (by first | exact Or.inl rfl | exact Or.inr rfl)) pgs_nil)))
        (pss_cons (ps_set (i := 7) sc_w_rows_right.nd rfl (by first | exact Or.inl rfl | exact Or.inr rfl) (pe_ix (kIxL K) (pc (cal_w_worths T) hr (pa_cons (pv 6) pa_nil)) (pv 3) (fun _ _ => rfl)))
      (pss_cons (ps_set (i := 8) sc_w_rows_right.nd rfl (by first | exact Or.inl rfl | exact Or.inr rfl) (pe_ifExp (pt_cmpR op_eq (pe_ix (kIxT K) (pv 6) pe_int (fun _ _ => rfl)) pe_str (nomark _)) (pv 7) (pc (cal_w_ratio T) hr (pa_cons (pv 7) pa_nil))))
      (pss_one (ps_if (PW.pt (pw_or (pt_cmpR (op_or op_ne (neX P w K mg base hr)) (pe_dget (hu_of hr) (pv 4) (pv 5) (fun _ _ => rfl)) (pv 8) (nomark _)) (pw_or1 (pt_cmpR op_ne (pe_cmpR op_isN (pe_dget (hu_of hr) (pv 4) (pv 5) (fun _ _ => rfl)) pe_non (nomark _)) (pe_cmpR op_isN (pv 8) pe_non (nomark _)) (nomark _)))))
        (pss_one (ps_ret pe_bl))
        (pss_nil))))))))))
      (pss_one (ps_ret pe_bl)), ?_⟩
  obtain ⟨rs, n, hx, hok, ht, tok, rfl, hn, k⟩ := h
  have big : 100000 ≤ sizeLine := by decide
  have h12 := hok.few
  have hcl : (srtC (rowsC rs)).length ≤ 12 := tok.cs.few
  repeat walk_at "ru"
  refine forRN (by omega) (by omega) (forN (fun i σ' H' => Same H H' ∧ ∃ x3 x4 x5 x6 x7 x8, σ' = [some v0, some v1, some (.int (n : Int)), x3, x4, x5, x6, x7, x8]) ⟨Same.refl _, none, none, none, none, none, none, rfl⟩ ?_ ?_)
  · rintro i σ' H4 hi ⟨e4, x3, x4, x5, x6, x7, x8, rfl⟩
    repeat walk_at "ru"
    refine ⟨(Up.up (R := TabR K) e4 ht).own, ?_⟩
    repeat walk_at "ru"
    have hin : i < n := by rw [Int.toNat_natCast] at hi; exact hi
    refine ⟨_, _, rfl, tabOf rs n, i, Up.up e4 ht, tok, rfl, hin, fun p H1 e1 hd => ?_⟩
    have e01 := e4.trans e1
    repeat walk_at "ru"
    have hd2 : DA (WthR K) H1 p (((tabOf rs n).cs.map fun c => (c.1, c.2.at i)).map fun c => (.inr c.1, c.2)) := by
      rw [List.map_map]
      exact hd
    have hnd2 : (((tabOf rs n).cs.map fun c => (c.1, c.2.at i)).map (·.1)).Nodup := by
      rw [List.map_map]
      exact tok.cs.nd
    obtain ⟨kvs, hk, hkv⟩ := id hd2
    refine ⟨p, kvs, rfl, hk, fun q hq => ?_⟩
    have hy := rl_dkeys (K := K) hkv (by rw [List.length_map]; show (srtC (rowsC rs)).length ≤ _; omega) hq
    rw [List.map_map] at hy
    have e2 : Same H1 (upd H1 q (.lst (kvs.map fun kv => kV kv.1))) := Same.new hq
    generalize upd H1 q (.lst (kvs.map fun kv => kV kv.1)) = H2 at hy e2 ⊢
    have e02 := e01.trans e2
    repeat walk_at "ru"
    refine lcL (Up.up e02 hx) fun J W hz => lcK_pair (S := RS) W hz (fun r => r.1) (fun v3 H3 e3 hv3 => ?_) (fun a G x y ham e1 hx1 hy1 Kt hk => ?_)
    rotate_right
    · obtain rfl : x = V.str a.1 := hx1
      repeat walk_at "ru"
      exact hk _ _ (Same.refl _) rfl
    repeat walk_at "ru"
    refine rd_srtS (.inl hv3) fun v5 H5 out e5 hp hs hv5 => ?_
    have e35 := e3.trans e5
    refine .inl (rd_neX (nc_lst ei_str) (Up.up e35 hy) hv5 fun H6 e6 => ?_)
    have hout : (tabOf rs n).cs.map (·.1) = out := by
      show (srtC (rowsC rs)).map (·.1) = out
      rw [srtC_names, rowsC_names]
      exact (srtS_of hp hs).symm
    have e06 := e02.trans (e35.trans e6)
    have e16 := e2.trans (e35.trans e6)
    rw [show decide (((tabOf rs n).cs.map ((fun x : Str × Wth => x.1) ∘ fun c => (c.1, c.2.at i))) = out) = true from decide_eq_true hout]
    repeat walk_at "ru"
    refine forL (Up.up e06 hx) fun J W hz => ?_
    refine forK W (fun j σ' H' => Same H6 H' ∧ ∃ x5 x6 x7 x8, σ' = [some v0, some v1, some (.int (n : Int)), some (.int (i : Int)), some (.ref p), x5, x6, x7, x8]) ⟨Same.refl _, _, _, _, _, rfl⟩ (fun i σ' H' h => h.1) ?_ ?_
    · rintro j σ' H7 r y H8 hj ⟨e67, y5, y6, y7, y8, rfl⟩ e78 e68 hy8
      refine rd_gpair (a := r.1) (b := r.2) hy8 fun y1 y2 hy1 hy2 => ?_
      obtain rfl : y1 = V.str r.1 := hy1
      have hrm := List.mem_of_getElem? hj
      have hLC := hok.ok r hrm
      have hlong := hLC.long
      have hcm : (r.1, (toC r.2).at i) ∈ (tabOf rs n).cs.map fun c => (c.1, c.2.at i) := List.mem_map.mpr ⟨(r.1, toC r.2), srtC_perm.mem_iff.mpr (List.mem_map.mpr ⟨r, hrm, rfl⟩), rfl⟩
      have hd8 := hd2.up (e16.trans e68)
      have e08 := e06.trans e68
      repeat walk_at "ru"
      refine ⟨_, rfl, r.2, hy2, fun w hw => ?_⟩
      repeat walk_at "ru"
      obtain ⟨nm, D2⟩ := r
      cases D2 with
      | fac ls cs =>
        have hic : i < cs.length := by have : cs.length = n := hlong; omega
        refine rd_ixL (n := i) (a := cs[i]) hw (List.getElem?_eq_getElem hic) (fun w2 hw2 => ?_)
        obtain ⟨pc, vl, vc, rfl, sc, hl, hc⟩ := id hy2
        repeat walk_at "ru"
        refine ⟨pc, _, 0, _, rfl, rfl, sc, rfl, ?_⟩
        repeat walk_at "ru"
        rw [decide_eq_true rfl]
        repeat walk_at "ru"
        refine rd_dg ?_
        repeat walk_at "ru"
        refine col_get (R := WthR K) (.inl hd8) hnd2 hcm fun v hv => ?_
        have hv2 : RIo H8 v cs[i] := at_fac (ls := ls) hv hic
        have hvw : v = w2 := rio_inj hv2 hw2
        subst hvw
        have hs : scal v v = true := by
          cases h : cs[i] with
          | none => rw [h] at hv2; rw [show v = V.non from hv2]; rfl
          | some c => rw [h] at hv2; rw [show v = V.int c from hv2.1]; rfl
        repeat walk_at "ru"
        refine .inl ⟨hs, ?_⟩
        rw [decide_eq_true rfl]
        repeat walk_at "ru"
        refine rd_dg ?_
        repeat walk_at "ru"
        refine col_get (R := WthR K) (.inl hd8) hnd2 hcm fun v' hv' => ?_
        obtain rfl : v' = v := rio_inj (at_fac (ls := ls) hv' hic) hv2
        repeat walk_at "ru"
        refine ⟨rfl, ?_⟩
        repeat walk_at "ru"
        refine ⟨rfl, ?_⟩
        refine ⟨rfl, ?_⟩
        rw [decide_eq_true rfl]
        repeat walk_at "ru"
        exact ⟨e68, _, _, _, _, rfl⟩
      | num ws =>
        have hic : i < ws.length := by have : ws.length = n := hlong; omega
        refine rd_ixL (n := i) (a := ws[i]) hw (List.getElem?_eq_getElem hic) (fun w2 hw2 => ?_)
        obtain ⟨pc, vw, rfl, sc, hww⟩ := id hy2
        repeat walk_at "ru"
        refine ⟨pc, _, 0, _, rfl, rfl, sc, rfl, ?_⟩
        repeat walk_at "ru"
        rw [decide_eq_false num_ne]
        repeat walk_at "ru"
        refine ⟨_, rfl, ws[i], hw2, hLC.num ws rfl _ (List.getElem_mem hic), fun w3 H9 e9 hw3 => ?_⟩
        repeat walk_at "ru"
        refine rd_dg ?_
        repeat walk_at "ru"
        refine col_get (R := WthR K) (.inl (hd8.up e9)) hnd2 hcm fun v hv => ?_
        have hv2 : RQo K H9 v (ws[i].map toQ) := at_num hv hic
        repeat walk_at "ru"
        cases ho : ws[i] with
        | none =>
          rw [ho] at hv2 hw3
          obtain rfl : v = V.non := hv2
          obtain rfl : w3 = V.non := hw3
          refine .inl ⟨rfl, ?_⟩
          rw [decide_eq_true rfl]
          repeat walk_at "ru"
          refine rd_dg ?_
          repeat walk_at "ru"
          refine col_get (R := WthR K) (.inl (hd8.up e9)) hnd2 hcm fun v' hv' => ?_
          have hv3 : RQo K H9 v' (ws[i].map toQ) := at_num hv' hic
          rw [ho] at hv3
          obtain rfl : v' = V.non := hv3
          repeat walk_at "ru"
          refine ⟨rfl, ?_⟩
          repeat walk_at "ru"
          refine ⟨rfl, ?_⟩
          refine ⟨rfl, ?_⟩
          rw [decide_eq_true (show V.bl (decide (V.non = V.non)) = V.bl (decide (V.non = V.non)) from rfl)]
          repeat walk_at "ru"
          exact ⟨e68.trans e9, _, _, _, _, rfl⟩
        | some a =>
          rw [ho] at hv2 hw3
          refine .inr (rd_neX (nc_rat (cal_Ratio___eq__ T) T.O_Ratio___eq__ T.Q_Ratio___ne__ T.C_Ratio.si.cm (by decide)) hv2.1 hw3.1 fun H10 e10 => ?_)
          rw [decide_eq_true rfl]
          repeat walk_at "ru"
          refine rd_dg ?_
          repeat walk_at "ru"
          refine col_get (R := WthR K) (.inl (hd8.up (e9.trans e10))) hnd2 hcm fun v' hv' => ?_
          have hv3 : RQo K H10 v' (ws[i].map toQ) := at_num hv' hic
          rw [ho] at hv3
          repeat walk_at "ru"
          refine ⟨rfl, ?_⟩
          repeat walk_at "ru"
          refine ⟨rfl, ?_⟩
          rw [decide_eq_false hv3.2, decide_eq_false hw3.2]
          refine ⟨rfl, ?_⟩
          rw [decide_eq_true rfl]
          repeat walk_at "ru"
          exact ⟨e68.trans (e9.trans e10), _, _, _, _, rfl⟩
    · rintro σ' H7 ⟨e67, y5, y6, y7, y8, rfl⟩
      repeat walk_at "ru"
      exact ⟨e06.trans e67, _, _, _, _, _, _, rfl⟩
  · rintro σ' H4 ⟨e4, x3, x4, x5, x6, x7, x8, rfl⟩
    repeat walk_at "ru"
    exact k _ e4
))
theorem qs_ok {D : LC} {n : Nat} (h : LcOk D n) : QsOk (toC D) := fun qs e q hq => by
  cases D with
  | fac ls cs => cases e
  | num ws =>
    have e : ws.map (Option.map toQ) = qs := ColD.num.inj e
    rw [← e] at hq
    obtain ⟨o, ho, eo⟩ := List.mem_map.mp hq
    cases o with
    | none => cases eo
    | some p => exact ⟨p, h.num ws rfl _ ho, (Option.some.inj eo).symm⟩
theorem rowsC_filter {rs : Rows} {p : Str → Bool} : rowsC (rs.filter fun r => p r.1) = (rowsC rs).filter fun c => p c.1 := @NI.run _ (by exact NI.carry : NI.Carry (by
  unfold rowsC
  rw [List.filter_map]
  rfl
))
theorem names_filter {α : Type} {rs : List (Str × α)} {p : Str → Bool} : (rs.filter fun r => p r.1).map (·.1) = (rs.map (·.1)).filter p := @NI.run _ (by exact NI.carry : NI.Carry (by
  rw [List.filter_map]
  rfl
))
theorem filter_sub {α : Type} {rs : List (Str × α)} {p : Str → Bool} (h : (rs.map (·.1)).Nodup) : ((rs.filter fun r => p r.1).map (·.1)).Nodup := @NI.run _ (by exact NI.carry : NI.Carry (by
  rw [names_filter]
  exact h.filter _
))
theorem map_repl {α : Type} {c : Str × α} : ∀ {cs : List (Str × α)}, (cs.map (·.1)).Nodup → c.1 ∈ cs.map (·.1) → (cs.map fun x => if x.1 = c.1 then (x.1, c.2) else x).Perm (cs.filter (fun x => !decide (x.1 = c.1)) ++ [c])
  | x :: cs, hn, hm => by
    rw [List.map_cons, List.nodup_cons] at hn
    by_cases h : x.1 = c.1
    · have hno : ∀ y ∈ cs, ¬ y.1 = c.1 := fun y hy z => hn.1 (List.mem_map.mpr ⟨y, hy, z.trans h.symm⟩)
      have e1 : (cs.map fun x => if x.1 = c.1 then (x.1, c.2) else x) = cs := by
        conv => rhs; rw [← List.map_id cs]
        refine List.map_congr_left fun y hy => ?_
        rw [if_neg (hno y hy)]
        rfl
      have e2 : cs.filter (fun x => !decide (x.1 = c.1)) = cs := List.filter_eq_self.mpr fun y hy => by rw [decide_eq_false (hno y hy)]; rfl
      rw [List.map_cons, if_pos h, e1, List.filter_cons_of_neg (by rw [decide_eq_true h]; exact Bool.false_ne_true), e2]
      have : (x.1, c.2) = c := Prod.ext h rfl
      rw [this]
      exact (List.perm_append_singleton c cs).symm
    · have hm : c.1 ∈ cs.map (·.1) := by
        rw [List.map_cons] at hm
        rcases List.mem_cons.mp hm with z | z
        · exact absurd z.symm h
        · exact z
      rw [List.map_cons, if_neg h, List.filter_cons_of_pos (by rw [decide_eq_false h]; rfl), List.cons_append]
      exact (map_repl hn.2 hm).cons x
theorem putC_perm {cs : Cols} {c : Str × ColD} (hn : (cs.map (·.1)).Nodup) : (putC cs c).Perm (cs.filter (fun x => !decide (x.1 = c.1)) ++ [c]) := @NI.run _ (by exact NI.carry : NI.Carry (by
  by_cases h : c.1 ∈ cs.map (·.1)
  · unfold putC
    rw [if_pos (by
      obtain ⟨x, hx, e⟩ := List.mem_map.mp h
      exact List.any_eq_true.mpr ⟨x, hx, decide_eq_true e⟩)]
    exact map_repl hn h
  · rw [putC_new h, List.filter_eq_self.mpr fun y hy => by rw [decide_eq_false (fun z => h (List.mem_map.mpr ⟨y, hy, z⟩))]; rfl]
))
theorem putC_len {cs : Cols} {c : Str × ColD} : (putC cs c).length ≤ cs.length + 1 := @NI.run _ (by exact NI.carry : NI.Carry (by
  unfold putC
  split
  · rw [List.length_map]
    omega
  · rw [List.length_append]
    exact Nat.le_refl _
))
theorem wider_eq {rs : Rows} {z : Str} {D : LC} (hn : (rs.map (·.1)).Nodup) : srtC (putC (srtC (rowsC rs)) (z, toC D)) = srtC (rowsC (rs.filter (fun r => !decide (r.1 = z)) ++ [(z, D)])) := @NI.run _ (by exact NI.carry : NI.Carry (by
  have hnd : ((rowsC rs).map (·.1)).Nodup := by rw [rowsC_names]; exact hn
  have h1 : (putC (srtC (rowsC rs)) (z, toC D)).Perm (rowsC (rs.filter (fun r => !decide (r.1 = z)) ++ [(z, D)])) := by
    refine (putC_perm ((srtC_perm.map (·.1)).nodup_iff.mpr hnd)).trans ?_
    have e : rowsC (rs.filter (fun r => !decide (r.1 = z)) ++ [(z, D)]) = (rowsC rs).filter (fun c => !decide (c.1 = z)) ++ [(z, toC D)] := by
      rw [← rowsC_filter (p := fun s => !decide (s = z))]
      unfold rowsC
      rw [List.map_append]
      rfl
    rw [e]
    exact (srtC_perm.filter _).append_right _
  refine srtC_of (srtC_perm.trans h1) srtC_srt ?_
  rw [rowsC_names, List.map_append]
  have h2 := filter_sub (rs := rs) (p := fun s => !decide (s = z)) hn
  refine List.nodup_append.mpr ⟨h2, List.pairwise_singleton _ _, fun a ha b hb e => ?_⟩
  have hb : b = z := List.mem_singleton.mp hb
  obtain ⟨r, hr, rfl⟩ := List.mem_map.mp ha
  have := (List.mem_filter.mp hr).2
  rw [decide_eq_true (e.trans hb)] at this
  cases this
))
theorem rd_inRL {K : PySem.W.Frag} {H : Hp} {Q : VK} {y : V} {ns : List Str} {z : Str} (h : RL K RS H y ns) (q : Q (.bl (decide (z ∈ ns))) H) : rIn K false (.str z) y H Q := @NI.run _ (by exact NI.carry : NI.Carry (by
  obtain ⟨p, vs, rfl, s, r, _⟩ := h
  obtain rfl := RAll.of_strs r
  exact ⟨p, _, rfl, .inl s, rfl, flat_strs, by rw [inV_strs]; exact q⟩
))
theorem nm_qs : ∀ z ∈ POOLN ++ (["q", "q9"] : List Str), nameB z = true := @NI.run _ (by exact NI.carry : NI.Carry (by decide +kernel
))
theorem RdOk.filter {rs : Rows} {n : Nat} {p : Str → Bool} (h : RdOk rs n) : RdOk (rs.filter fun r => p r.1) n := ⟨filter_sub h.nd, Nat.le_trans (List.length_filter_le _ _) h.few, fun r hr => h.ok r (List.mem_filter.mp hr).1⟩
theorem filter_in {rs : Rows} {p : Str → Bool} : rs.filter (fun r => decide (r.1 ∈ (rs.map (·.1)).filter p)) = rs.filter fun r => p r.1 := List.filter_congr fun r hr => by
  have hm : r.1 ∈ rs.map (·.1) := List.mem_map.mpr ⟨r, hr, rfl⟩
  cases h : p r.1 with
  | true => exact decide_eq_true (List.mem_filter.mpr ⟨hm, h⟩)
  | false => exact decide_eq_false fun z => by rw [(List.mem_filter.mp z).2] at h; cases h
theorem rowsC_sub {rs : Rows} {p : Str → Bool} {n : Nat} : ∀ c ∈ rowsC (rs.filter fun r => p r.1), c ∈ (tabOf rs n).cs := fun c hc => by
  obtain ⟨r, hr, rfl⟩ := List.mem_map.mp hc
  exact srtC_perm.mem_iff.mpr (List.mem_map.mpr ⟨r, (List.mem_filter.mp hr).1, rfl⟩)
theorem wider_ok {rs : Rows} {n : Nat} {z : Str} {D : LC} (h : RdOk rs n) (hf : rs.length + 1 ≤ 12) (hD : LcOk D n) : RdOk (rs.filter (fun r => !decide (r.1 = z)) ++ [(z, D)]) n := ⟨by
  rw [List.map_append, List.nodup_append]
  refine ⟨filter_sub (p := fun x => !decide (x = z)) h.nd, by simp, fun a ha b hb e => ?_⟩
  obtain ⟨r, hr, rfl⟩ := List.mem_map.mp ha
  have h2 := (List.mem_filter.mp hr).2
  rw [List.map_cons, List.map_nil, List.mem_singleton] at hb
  rw [decide_eq_true (e.trans hb)] at h2
  exact absurd h2 (by decide), by
  have := List.length_filter_le (fun r : Str × LC => !decide (r.1 = z)) rs
  rw [List.length_append, List.length_singleton]
  omega, fun r hr => by
  rcases List.mem_append.mp hr with h1 | h1
  · exact h.ok r (List.mem_filter.mp h1).1
  · obtain rfl := List.mem_singleton.mp h1
    exact hD⟩
theorem qs_rows {rs : Rows} {n : Nat} (h : ∀ r ∈ rs, LcOk r.2 n) : ∀ c ∈ srtC (rowsC rs), QsOk c.2 := fun c hc => by
  obtain ⟨r, hr, rfl⟩ := rows_mem hc
  exact qs_ok (h r hr)
def sp_w_changed_right (K : PySem.W.Frag) : Sp := sp4 fun x y z u H Q _ => ∃ (rs : Rows) (m n : Nat), Reel H x ∧ RwR K H y rs ∧ RwOk rs m n ∧ m ≤ 6 ∧ TabR K H z (tabOf rs n) ∧ TOk (tabOf rs n) ∧ u = .int (n : Int) ∧ n ≤ 100 ∧ ∀ H', Same H H' → Q (.bl true) H'
abbrev n_w_changed_right : List Str := ["_law_reel_here", "_law_rows_here", "_law_table_here", "_law_total", "_law_names_here", "_law_name", "_law_column_here", "_law_long", "_law_some", "_law_pair", "_law_rest", "_law_wider"]
theorem sc_w_changed_right : FnScope n_w_changed_right ["_law_reel_here", "_law_rows_here", "_law_table_here", "_law_total"] (defScope s_w_changed_right) := ⟨rfl, rfl, rfl, by decide +kernel, rfl, by decide +kernel, by decide +kernel⟩
theorem cal_w_changed_right (T : Tx P K mg) : Cal P w K mg base 14 "_law_changed_right" (sp_w_changed_right K) := @NI.run _ (by exact NI.carry : NI.Carry (by
  refine cal_of (k := 13) T.G_w_changed_right T.D_w_changed_right sc_w_changed_right (fun _ _ _ _ _ _ us hl => match us, hl with | [_, _, _, _], _ => rfl) (fun vs H Q E h => ?_) (fun cdv A outer s H vs Q E hr h => ?_)
  · obtain ⟨v0, v1, v2, v3, rfl, _⟩ := h
    rfl
  obtain ⟨v0, v1, v2, v3, rfl, h⟩ := h
  refine ⟨_, pss_cons (ps_setLc (i := 4) (own := [("_law_name", 5), ("_law_column_here", 6)]) (g := gTup K 2 (gCons (gName 5) (gCons (gName 6) gNil))) (tt := tYes) (by rfl) sc_w_changed_right.nd rfl rfl (sw_true rfl rfl rfl (by decide +kernel)) (kPiL K (pv 1)) (blkOk_by (own := [("_law_name", 5), ("_law_column_here", 6)]) (N := n_w_changed_right) (by rfl)) (fun _ _ _ _ _ => kTup K (by rfl) (pgs_cons (pg_name (i := 5) sc_w_changed_right.nd rfl (by first | exact Or.inl rfl | exact Or.inr rfl)) (pgs_cons (pg_name (i := 6) sc_w_changed_right.nd rfl (by first | exact Or.inl rfl | exact Or.inr rfl)) pgs_nil))) (fun _ _ _ _ _ => pts_nil) (fun _ _ _ _ _ => pe_hid (pv 5)))
      (pss_cons (ps_set (i := 7) sc_w_changed_right.nd rfl (by first | exact Or.inl rfl | exact Or.inr rfl) (pe_op op_add pe_int (pc (cal_turn T) hr (pa_cons (pv 0) (pa_cons pe_int pa_nil)))))
      (pss_cons (ps_set (i := 8) sc_w_changed_right.nd rfl (by first | exact Or.inl rfl | exact Or.inr rfl) (pe_lc (own := [("_law_name", 5)]) (g := gName 5) (by rfl) sc_w_changed_right.nd (kPiL K (pv 4)) (blkOk_by (own := [("_law_name", 5)]) (N := n_w_changed_right) (by rfl)) (fun _ _ _ _ _ => pg_name (i := 5) sc_w_changed_right.nd rfl (by first | exact Or.inl rfl | exact Or.inr rfl)) (fun _ _ _ _ _ => pts_hid (pts_one (pt_cmpR op_ne (pe_callB call_len_str (by rfl) T.N_len (by decide +kernel) (pa_cons (pv 5) pa_nil)) (pv 7) (nomark _)))) (fun _ _ _ _ _ => pe_hid (pv 5))))
      (pss_cons (ps_if (pt_cmpR (op_or (neX P w K mg base hr) (neTX P w K mg base hr)) (pc (cal_w_shown T) hr (pa_cons (pe_methN (cal_Table_shown T) T.O_Table_shown T.C_Table.cl hr takesE (pv 2) (pa_cons (pe_callTy (kTuple K) (by rfl) T.N_tuple (by decide +kernel) (pa_cons (pv 8) pa_nil)) pa_nil)) pa_nil)) (pc (cal_w_due T) hr (pa_cons (pe_lc (own := [("_law_pair", 9)]) (g := gName 9) (by rfl) sc_w_changed_right.nd (kPiL K (pv 1)) (blkOk_by (own := [("_law_pair", 9)]) (N := n_w_changed_right) (by rfl)) (fun _ _ _ _ _ => pg_name (i := 9) sc_w_changed_right.nd rfl (by first | exact Or.inl rfl | exact Or.inr rfl)) (fun _ _ _ _ _ => pts_hid (pts_one (pt_cmpR (kInSeq K) (pe_ix (kIxT K) (pv 9) pe_int (fun _ _ => rfl)) (pv 8) (by with_unfolding_all rfl)))) (fun _ _ _ _ _ => pe_hid (pv 9))) (pa_cons (pv 3) pa_nil))) (nomark _))
        (pss_one (ps_ret pe_bl))
        (pss_nil))
      (pss_cons (ps_asg (pe_tup (pa_cons (pc (cal_w_any T) hr (pa_cons (pv 0) (pa_cons (pe_op (kCatL K) (pv 4) (pe_lst (pa_cons pe_str (pa_cons pe_str pa_nil)))) pa_nil))) (pa_cons (pc (cal_w_column T) hr (pa_cons (pv 0) (pa_cons (pv 3) (pa_cons (pc (cal_turn T) hr (pa_cons (pv 0) (pa_cons pe_int pa_nil))) pa_nil)))) pa_nil))) (kTup K (by rfl) (pgs_cons (pg_name (i := 5) sc_w_changed_right.nd rfl (by first | exact Or.inl rfl | exact Or.inr rfl)) (pgs_cons (pg_name (i := 6) sc_w_changed_right.nd rfl (by first | exact Or.inl rfl | exact Or.inr rfl)) pgs_nil))))
      (pss_cons (ps_setLc (i := 10) (own := [("_law_pair", 9)]) (g := gName 9) (by rfl) sc_w_changed_right.nd rfl rfl (sw_true rfl rfl rfl (by decide +kernel)) (kPiL K (pv 1)) (blkOk_by (own := [("_law_pair", 9)]) (N := n_w_changed_right) (by rfl)) (fun _ _ _ _ _ => pg_name (i := 9) sc_w_changed_right.nd rfl (by first | exact Or.inl rfl | exact Or.inr rfl)) (fun _ _ _ _ _ => pts_hid (pts_one (pt_cmpR op_ne (pe_ix (kIxT K) (pv 9) pe_int (fun _ _ => rfl)) (pv 5) (nomark _)))) (fun _ _ _ _ _ => pe_hid (pv 9)))
      (pss_cons (ps_set (i := 11) sc_w_changed_right.nd rfl (by first | exact Or.inl rfl | exact Or.inr rfl) (pe_methN (cal_Table_with_column T) T.O_Table_with_column T.C_Table.cl hr takesE (pv 2) (pa_cons (pv 5) (pa_cons (pc (cal_w_made T) hr (pa_cons (pv 6) pa_nil)) pa_nil))))
      (pss_cons (ps_if (pt_cmpR (op_or (neX P w K mg base hr) (neTX P w K mg base hr)) (pc (cal_w_shown T) hr (pa_cons (pv 11) pa_nil)) (pc (cal_w_due T) hr (pa_cons (pe_op (kCatL K) (pv 10) (pe_lst (pa_cons (pe_tup (pa_cons (pv 5) (pa_cons (pv 6) pa_nil))) pa_nil))) (pa_cons (pv 3) pa_nil))) (nomark _))
        (pss_one (ps_ret pe_bl))
        (pss_nil))
      (pss_cons (ps_if (pt_cmpR (op_or (neX P w K mg base hr) (neTX P w K mg base hr)) (pc (cal_w_shown T) hr (pa_cons (pv 2) pa_nil)) (pc (cal_w_due T) hr (pa_cons (pv 1) (pa_cons (pv 3) pa_nil))) (nomark _))
        (pss_one (ps_ret pe_bl))
        (pss_nil))
      (pss_one (ps_ret (pe_or (pe_cmpR (kInSeq K) (pv 5) (pv 4) (by with_unfolding_all rfl)) (pe_one (pe_cmpR (op_eqN (cal_Table___eq__ T) T.O_Table___eq__ (hr.mono (by decide))) (pe_methN (cal_Table_shown T) T.O_Table_shown T.C_Table.cl hr takesE (pv 11) (pa_cons (pe_callTy (kTuple K) (by rfl) T.N_tuple (by decide +kernel) (pa_cons (pv 4) pa_nil)) pa_nil)) (pv 2) (nomark _)))))))))))))), ?_⟩
  obtain ⟨rs, m, n, hx, hy, hok, hm, ht, tok, rfl, hn, k⟩ := h
  have big : 100000 ≤ sizeLine := by decide
  have hrd := hok.rd (show m ≤ 12 by omega)
  have hlen : rs.length = m := by
    have := hok.nm.len
    rwa [List.length_map] at this
  have hcn : (rowsC rs).length = m := by unfold rowsC; rw [List.length_map]; exact hlen
  have hQ0 : ∀ c ∈ (tabOf rs n).cs, QsOk c.2 := fun c hc => by
    obtain ⟨r, hr, rfl⟩ := rows_mem hc
    exact qs_ok (hok.ok r hr)
  repeat walk_at "ru"
  refine lcL hy fun J W hz => lcK_pair (S := RS) W hz (fun r => r.1) (fun v1 H1 e1 hv1 => ?_) (fun a G x y ham e1 hx1 hy1 Kt hk => ?_)
  rotate_right
  · obtain rfl : x = V.str a.1 := hx1
    repeat walk_at "ru"
    exact hk _ _ (Same.refl _) rfl
  repeat walk_at "ru"
  refine ⟨_, _, rfl, _, Reel.up e1 hx, rfl, by omega, by omega, fun j H2 j0 j1 e2 => ?_⟩
  have e02 := e1.trans e2
  repeat walk_at "ru"
  refine lcLf (Up.up e2 hv1) fun J W hz => lcF_name (S := RS) (K := K) W hz (fun z => !decide ((z.length : Int) = 1 + j)) (fun z => z) (fun v3 H3 e3 hv3 => ?_) (fun z G x hzm e5 hx5 Kt hk5 => ?_) (fun z G x hzm hp e5 hx5 Kt hk5 => ?_)
  rotate_left
  · obtain rfl : x = V.str z := hx5
    repeat walk_at "ru"
    have h8 := (nameB_len (pool_name _ (hok.nm.pool z hzm))).2
    refine ⟨z, rfl, by omega, ?_⟩
    repeat walk_at "ru"
    exact hk5
  · obtain rfl : x = V.str z := hx5
    repeat walk_at "ru"
    exact hk5 _ _ (Same.refl _) rfl
  rw [List.map_id'] at hv3
  generalize hp : (fun z : Str => !decide ((z.length : Int) = 1 + j)) = p at hv3
  have e03 := e02.trans e3
  repeat walk_at "ru"
  refine ⟨(Up.up (R := TabR K) e03 ht).own, ?_⟩
  repeat walk_at "ru"
  refine rd_tupleL hv3 fun w4 H4 e4 hw4 => ?_
  have e04 := e03.trans e4
  repeat walk_at "ru"
  have hrf := hrd.filter (p := p)
  refine ⟨_, _, rfl, tabOf rs n, rowsC (rs.filter fun r => p r.1), Up.up e04 ht, tok, by rw [rowsC_names, names_filter]; exact hw4, rowsC_sub, by rw [rowsC_names]; exact hrf.nd, fun v5 H5 e5 t5 o5 => ?_⟩
  have e05 := e04.trans e5
  repeat walk_at "ru"
  refine ⟨_, rfl, _, t5, o5, qs_rows hrf.ok, fun v6 H6 e6 h6 => ?_⟩
  have e06 := e05.trans e6
  have e36 := (e4.trans e5).trans e6
  repeat walk_at "ru"
  refine lcLf (Up.up e06 hy) fun J W hz => lcF_name (S := RP K RS (LcR K)) (K := K) W hz (fun r => decide (r.1 ∈ (rs.map (·.1)).filter p)) (fun r => r) (fun v7 H7 e7 hv7 => ?_) (fun r G x hrm e7 hx7 Kt hk7 => ?_) (fun r G x hrm hp7 e7 hx7 Kt hk7 => ?_)
  rotate_left
  · obtain ⟨q, y, z, rfl, sq, ry, rz⟩ := hx7
    obtain rfl : y = V.str r.1 := ry
    repeat walk_at "ru"
    refine ⟨q, _, 0, _, rfl, rfl, sq, rfl, ?_⟩
    repeat walk_at "ru"
    refine rd_inRL (Up.up (e36.trans e7) hv3) ?_
    repeat walk_at "ru"
    exact hk7
  · repeat walk_at "ru"
    exact hk7 _ _ (Same.refl _) hx7
  rw [List.map_id', filter_in] at hv7
  have e07 := e06.trans e7
  repeat walk_at "ru"
  refine ⟨_, _, rfl, _, n, hv7, hrf, rfl, fun v8 H8 e8 h8 => ?_⟩
  have e08 := e07.trans e8
  refine .inr (rd_neT (rn_lst et_sd) (Up.up (e7.trans e8) h6) h8 fun H9 e9 => ?_)
  have e09 := e08.trans e9
  clear hv7 h8 h6 t5 o5 hw4
  repeat walk_at "ru"
  have hv9 := Up.up (R := RL K RS) (((((e2.trans e3).trans e36).trans e7).trans e8).trans e9) hv1
  refine ⟨by show 2 ≤ sizeLine; decide, fun q hq => ?_⟩
  have e10 : Same H9 (upd H9 q (.lst [.str "q", .str "q9"])) := Same.new hq
  have hqq : RL K RS (upd H9 q (.lst [.str "q", .str "q9"])) (.ref q) (["q", "q9"] : List Str) := RL.mk hq (RAll.strs (ns := (["q", "q9"] : List Str))) (by show 2 ≤ sizeLine; decide)
  generalize upd H9 q (.lst [.str "q", .str "q9"]) = H10 at e10 hqq ⊢
  refine rd_catL (Up.up e10 hv9) hqq (by rw [List.length_map]; show _ + 2 ≤ _; omega) fun v11 H11 e11 hv11 => ?_
  have e0B := (e09.trans e10).trans e11
  have eBs : Same H9 H11 := e10.trans e11
  repeat walk_at "ru"
  refine ⟨_, _, rfl, Str, RS, inferInstance, _, Reel.up e0B hx, hv11, by simp, by rw [List.length_append, List.length_map]; show _ + 2 ≤ 1000; omega, fun z w12 H12 hz12 e12 hw12 => ?_⟩
  obtain rfl : w12 = V.str z := hw12
  have e0C := e0B.trans e12
  have hzp : nameB z = true := nm_qs z (by
    rcases List.mem_append.mp hz12 with h | h
    · exact List.mem_append_left _ (hok.nm.pool z h)
    · exact List.mem_append_right _ h)
  repeat walk_at "ru"
  refine ⟨_, _, rfl, _, Reel.up e0C hx, rfl, by omega, by omega, fun way H13 w0 w1 e13 => ?_⟩
  have e0D := e0C.trans e13
  repeat walk_at "ru"
  refine ⟨_, _, _, rfl, n, way, Reel.up e0D hx, rfl, rfl, hn, fun v14 H14 D e14 hD hv14 => ?_⟩
  have e0E := e0D.trans e14
  repeat walk_at "ru"
  refine ⟨by show 2 ≤ sizeLine; decide, fun q2 hq2 => ?_⟩
  repeat walk_at "ru"
  refine gok_pair (.inl (.inl upd_same)) gok_name gok_name _ (Same.refl _) _ ?_
  have e15 : Same H14 (upd H14 q2 (.tup [.str z, v14])) := Same.new hq2
  generalize upd H14 q2 (.tup [.str z, v14]) = H15 at e15 ⊢
  have e0F := e0E.trans e15
  have hv15 := Up.up (R := LcR K) e15 hv14
  clear hv11 hqq hv14
  repeat walk_at "ru"
  refine lcLf (Up.up e0F hy) fun J W hz => lcF_name (S := RP K RS (LcR K)) (K := K) W hz (fun r => !decide (r.1 = z)) (fun r => r) (fun v16 H16 e16 hv16 => ?_) (fun r G x hrm e7 hx7 Kt hk7 => ?_) (fun r G x hrm hp7 e7 hx7 Kt hk7 => ?_)
  rotate_left
  · obtain ⟨q, y, z', rfl, sq, ry, rz⟩ := hx7
    obtain rfl : y = V.str r.1 := ry
    repeat walk_at "ru"
    refine ⟨q, _, 0, _, rfl, rfl, sq, rfl, ?_⟩
    repeat walk_at "ru"
    exact hk7
  · repeat walk_at "ru"
    exact hk7 _ _ (Same.refl _) hx7
  rw [List.map_id'] at hv16
  have e0G := e0F.trans e16
  have eEG := e15.trans e16
  have hR2 : RdOk (rs.filter (fun r => !decide (r.1 = z)) ++ [(z, D)]) n := wider_ok hrd (by omega) hD
  repeat walk_at "ru"
  refine ⟨(Up.up (R := TabR K) e0G ht).own, ?_⟩
  repeat walk_at "ru"
  refine ⟨_, rfl, D, n, Up.up e16 hv15, hD, hn, fun v17 H17 e17 hv17 => ?_⟩
  have e0H := e0G.trans e17
  repeat walk_at "ru"
  refine ⟨_, _, _, rfl, tabOf rs n, (z, toC D), Up.up e0H ht, tok, rfl, hv17, hzp, by rw [toC_long]; exact hD.long, Nat.le_trans putC_len (by show (srtC (rowsC rs)).length + 1 ≤ 12; rw [srtC_perm.length_eq]; omega), fun v18 H18 e18 t18 o18 => ?_⟩
  have e0I := e0H.trans e18
  have hT2 : (⟨srtC (putC (tabOf rs n).cs (z, toC D)), (tabOf rs n).n⟩ : TabD) = tabOf (rs.filter (fun r => !decide (r.1 = z)) ++ [(z, D)]) n := by
    show (⟨srtC (putC (srtC (rowsC rs)) (z, toC D)), n⟩ : TabD) = ⟨_, n⟩
    rw [wider_eq hok.nm.nd]
  rw [hT2] at t18 o18
  clear hv17 hT2
  repeat walk_at "ru"
  refine ⟨_, rfl, _, t18, o18, qs_rows hR2.ok, fun v19 H19 e19 h19 => ?_⟩
  have e0J := e0I.trans e19
  have eGJ := (e17.trans e18).trans e19
  repeat walk_at "ru"
  refine ⟨by show 2 ≤ sizeLine; decide, fun q3 hq3 => ?_⟩
  have e20 : Same H19 (upd H19 q3 (.tup [.str z, v14])) := Same.new hq3
  have hp3 : RP K RS (LcR K) (upd H19 q3 (.tup [.str z, v14])) (.ref q3) (z, D) := ⟨q3, _, _, rfl, .inl (.inl upd_same), rfl, Up.up e20 (Up.up (((e16.trans e17).trans e18).trans e19) hv15)⟩
  generalize upd H19 q3 (.tup [.str z, v14]) = H20 at e20 hp3 ⊢
  repeat walk_at "ru"
  refine ⟨by show 1 ≤ sizeLine; decide, fun q4 hq4 => ?_⟩
  have e21 : Same H20 (upd H20 q4 (.lst [.ref q3])) := Same.new hq4
  have hl4 : RwR K (upd H20 q4 (.lst [.ref q3])) (.ref q4) [(z, D)] := RL.mk hq4 (.cons hp3 .nil) (by show 1 ≤ sizeLine; decide)
  generalize upd H20 q4 (.lst [.ref q3]) = H21 at e21 hl4 ⊢
  have eG1 := (eGJ.trans e20).trans e21
  have hR2l := hR2.few
  rw [List.length_append, List.length_singleton] at hR2l
  refine rd_catL (Up.up eG1 hv16) hl4 (by show _ + 1 ≤ _; omega) fun v22 H22 e22 h22 => ?_
  have e0K := ((e0J.trans e20).trans e21).trans e22
  repeat walk_at "ru"
  refine ⟨_, _, rfl, _, n, h22, hR2, rfl, fun v23 H23 e23 h23 => ?_⟩
  have e0L := e0K.trans e23
  refine .inr (rd_neT (rn_lst et_sd) (Up.up ((((e20.trans e21).trans e22)).trans e23) h19) h23 fun H24 e24 => ?_)
  have e0M := e0L.trans e24
  have t24 := Up.up (R := TabR K) (((((e19.trans e20).trans e21).trans e22).trans e23).trans e24) t18
  clear h19 h22 h23 hl4 hp3 t18 hv16 hv15
  repeat walk_at "ru"
  refine ⟨_, rfl, _, Up.up e0M ht, tok, hQ0, fun v25 H25 e25 h25 => ?_⟩
  have e0N := e0M.trans e25
  repeat walk_at "ru"
  refine ⟨_, _, rfl, _, n, Up.up e0N hy, hrd, rfl, fun v26 H26 e26 h26 => ?_⟩
  have e0O := e0N.trans e26
  refine .inr (rd_neT (rn_lst et_sd) (Up.up e26 h25) h26 fun H27 e27 => ?_)
  have e0P := e0O.trans e27
  clear h25 h26
  repeat walk_at "ru"
  have hvP := Up.up (R := RL K RS) ((((((((((eBs.trans e12).trans e13).trans e14).trans eEG).trans eGJ).trans ((e20.trans e21).trans e22)).trans e23).trans e24).trans (e25.trans e26)).trans e27) hv9
  refine rd_inRL hvP ?_
  by_cases hzn : z ∈ rs.map (·.1)
  · refine ⟨true, by rw [decide_eq_true hzn], ?_⟩
    rw [if_pos rfl]
    exact k _ e0P
  · refine ⟨false, by rw [decide_eq_false hzn], ?_⟩
    rw [if_neg (by decide)]
    have hfr : rs.filter (fun r => !decide (r.1 = z)) = rs := List.filter_eq_self.mpr fun r hr => by
      rw [decide_eq_false fun e => hzn (List.mem_map.mpr ⟨r, hr, e⟩)]
      rfl
    have t27 := Up.up (R := TabR K) ((e25.trans e26).trans e27) t24
    repeat walk_at "ru"
    refine ⟨t27.own, ?_⟩
    repeat walk_at "ru"
    refine rd_tupleL hvP fun w28 H28 e28 hw28 => ?_
    have e0Q := e0P.trans e28
    repeat walk_at "ru"
    refine ⟨_, _, rfl, _, rowsC rs, Up.up e28 t27, o18, by rw [rowsC_names]; exact hw28, fun c hc => srtC_perm.mem_iff.mpr (by
      unfold rowsC
      rw [List.map_append, hfr]
      exact List.mem_append_left _ hc), by rw [rowsC_names]; exact hok.nm.nd, fun v29 H29 e29 t29 o29 => ?_⟩
    have e0R := e0Q.trans e29
    repeat walk_at "ru"
    have htR := Up.up (R := TabR K) e0R ht
    refine ⟨t29.own, .inl htR.own, ?_⟩
    refine ⟨_, _, rfl, tabOf rs n, t29, tok, .inl ⟨tabOf rs n, htR, tok, .inl rfl, fun H30 e30 => ⟨true, by simp, ?_⟩⟩⟩
    exact k _ (e0R.trans e30)
))
theorem LvOk.turn {ls : List Str} (h : LvOk ls) : LvOk (ls.drop 1 ++ ls.take 1) := @NI.run _ (by exact NI.carry : NI.Carry (by
  have p : (ls.drop 1 ++ ls.take 1).Perm ls := List.perm_append_comm.trans (by rw [List.take_append_drop])
  exact ⟨by rw [p.length_eq]; exact h.two, by rw [p.length_eq]; exact h.few, fun z hz => h.run z (p.mem_iff.mp hz), p.nodup_iff.mpr h.nd⟩
))
theorem turn_ne {ls : List Str} (h : LvOk ls) : ls.drop 1 ++ ls.take 1 ≠ ls := @NI.run _ (by exact NI.carry : NI.Carry (by
  have h2 := h.two
  have nd := h.nd
  match ls, h2, nd with
  | a :: b :: t, _, nd =>
    intro e
    have e0 : b = a := (List.cons.inj e).1
    rw [e0] at nd
    exact (List.nodup_cons.mp nd).1 List.mem_cons_self
))
theorem LvD.wide {ls : List Str} (h : LvD ls) : LvOk (ls ++ (["q"] : List Str)) := ⟨by
  have := h.ok.two
  rw [List.length_append]
  omega, by
  have := h.five
  rw [List.length_append, List.length_singleton]
  omega, fun z hz => by
  rcases List.mem_append.mp hz with h1 | h1
  · exact h.ok.run z h1
  · obtain rfl := List.mem_singleton.mp h1
    decide +kernel, by
  rw [List.nodup_append]
  refine ⟨h.ok.nd, by simp, fun a ha b hb e => ?_⟩
  obtain rfl := List.mem_singleton.mp hb
  exact h.noq (e ▸ ha)⟩
theorem wide_ne {ls : List Str} : ls ++ (["q"] : List Str) ≠ ls := fun e => by
  have := congrArg List.length e
  rw [List.length_append, List.length_singleton] at this
  omega
theorem CdOk.to {m k : Nat} {cs : List (Option Int)} (h : CdOk m cs) (hk : m ≤ k) : CdOk k cs := ⟨h.1, fun n hn => ⟨(h.2 n hn).1, by have := (h.2 n hn).2; omega⟩⟩
def sp_w_columns_right (K : PySem.W.Frag) : Sp := sp3 fun x y z H Q _ => ∃ (rs : Rows) (m n : Nat), Reel H x ∧ RwR K H y rs ∧ RwOk rs m n ∧ m ≤ 6 ∧ z = .int (n : Int) ∧ n ≤ 100 ∧ ∀ H', Same H H' → Q (.bl true) H'
abbrev n_w_columns_right : List Str := ["_law_reel_here", "_law_rows_here", "_law_total", "_law_name", "_law_column_here", "_law_made_here", "_law_texts", "_law_code", "_law_turned", "_law_wider", "_law_row", "_law_pair"]
theorem sc_w_columns_right : FnScope n_w_columns_right ["_law_reel_here", "_law_rows_here", "_law_total"] (defScope s_w_columns_right) := ⟨rfl, rfl, rfl, by decide +kernel, rfl, by decide +kernel, by decide +kernel⟩
theorem cal_w_columns_right (T : Tx P K mg) : Cal P w K mg base 12 "_law_columns_right" (sp_w_columns_right K) := @NI.run _ (by exact NI.carry : NI.Carry (by
  refine cal_of (k := 11) T.G_w_columns_right T.D_w_columns_right sc_w_columns_right (fun _ _ _ _ _ _ us hl => match us, hl with | [_, _, _], _ => rfl) (fun vs H Q E h => ?_) (fun cdv A outer s H vs Q E hr h => ?_)
  · obtain ⟨v0, v1, v2, rfl, _⟩ := h
    rfl
  obtain ⟨v0, v1, v2, rfl, h⟩ := h
  refine ⟨_, pss_cons (ps_for (passes_of rfl) rfl (kPiL K (pv 1)) (kTup K (by rfl) (pgs_cons (pg_name (i := 3) sc_w_columns_right.nd rfl (by first | exact Or.inl rfl | exact Or.inr rfl)) (pgs_cons (pg_name (i := 4) sc_w_columns_right.nd rfl (by first | exact Or.inl rfl | exact Or.inr rfl)) pgs_nil)))
        (pss_cons (ps_set (i := 5) sc_w_columns_right.nd rfl (by first | exact Or.inl rfl | exact Or.inr rfl) (pc (cal_w_made T) hr (pa_cons (pv 4) pa_nil)))
      (pss_cons (ps_if (PW.pt (pw_or (pt_cmpR op_ne (pe_callB (call_lenU (cal_Factor___len__ T) T.O_Factor___len__ (cal_Numbers___len__ T) T.O_Numbers___len__ (hr.mono (by decide)) (hr.mono (by decide))) (by rfl) T.N_len (by decide +kernel) (pa_cons (pv 5) pa_nil)) (pv 2) (nomark _)) (pw_or (pt_cmpR (op_or (op_neN (cal_Factor___eq__ T) T.O_Factor___eq__ T.Q_Factor___ne__ T.C_Factor.si.cm (hr.mono (by decide))) (op_neN (cal_Numbers___eq__ T) T.O_Numbers___eq__ T.Q_Numbers___ne__ T.C_Numbers.si.cm (hr.mono (by decide)))) (pv 5) (pc (cal_w_made T) hr (pa_cons (pv 4) pa_nil)) (nomark _)) (pw_or1 (pt_cmpR op_ne (ppU (prop_Factor_kind T) (prop_Numbers_kind T) hr (pv 5)) (pe_ix (kIxT K) (pv 4) pe_int (fun _ _ => rfl)) (nomark _))))))
        (pss_one (ps_ret pe_bl))
        (pss_nil))
      (pss_one (ps_if (pt_cmpR op_eq (pe_ix (kIxT K) (pv 4) pe_int (fun _ _ => rfl)) pe_str (nomark _))
        (pss_cons (ps_set (i := 6) sc_w_columns_right.nd rfl (by first | exact Or.inl rfl | exact Or.inr rfl) (pe_callTy (kTuple K) (by rfl) T.N_tuple (by decide +kernel) (pa_cons (pe_lc (own := [("_law_code", 7)]) (g := gName 7) (tt := tYes) (by rfl) sc_w_columns_right.nd (kPiL K (pe_ix (kIxT K) (pv 4) pe_int (fun _ _ => rfl))) (blkOk_by (own := [("_law_code", 7)]) (N := n_w_columns_right) (by rfl)) (fun _ _ _ _ _ => pg_name (i := 7) sc_w_columns_right.nd rfl (by first | exact Or.inl rfl | exact Or.inr rfl)) (fun _ _ _ _ _ => pts_nil) (fun _ _ _ _ _ => pe_hid (pe_ifExp (pt_cmpR op_isN (pv 7) pe_non (nomark _)) pe_non (pe_ix (kIxE K) (pe_ix (kIxT K) (pv 4) pe_int (fun _ _ => rfl)) (pv 7) (fun _ _ => rfl))))) pa_nil)))
      (pss_cons (ps_set (i := 8) sc_w_columns_right.nd rfl (by first | exact Or.inl rfl | exact Or.inr rfl) (pm (ctor_Factor T) hr (pa_cons (pe_op (kCatA K) (pe_slice sl_tupA (pe_ix (kIxT K) (pv 4) pe_int (fun _ _ => rfl)) (po_some pe_int) po_none) (pe_slice sl_tupA (pe_ix (kIxT K) (pv 4) pe_int (fun _ _ => rfl)) po_none (po_some pe_int))) (pa_cons (pp (prop_Factor_codes T) hr (pv 5)) pa_nil))))
      (pss_cons (ps_if (PW.pt (pw_or (pt_cmpR (op_neN (cal_Factor___eq__ T) T.O_Factor___eq__ T.Q_Factor___ne__ T.C_Factor.si.cm (hr.mono (by decide))) (pe_cmethW (pe_gC T.G_Factor) T.R_Factor_of_names.rd T.R_Factor_of_names.met.choose_spec (cal_Factor_of_names T) hr takesE (pa_cons (pe_ix (kIxT K) (pv 4) pe_int (fun _ _ => rfl)) (pa_cons (pv 6) pa_nil))) (pv 5) (nomark _)) (pw_or (pt_cmpR (op_eqN (cal_Factor___eq__ T) T.O_Factor___eq__ (hr.mono (by decide))) (pv 8) (pv 5) (nomark _)) (pw_or1 (pt_cmpR (op_or (kEqN3 (K := K) (cal_Factor___eq__ T) T.O_Factor___eq__ (hr.mono (by decide))) (kEqN3 (K := K) (cal_Numbers___eq__ T) T.O_Numbers___eq__ (hr.mono (by decide)))) (pv 5) (pe_ix (kIxT K) (pv 4) pe_int (fun _ _ => rfl)) (nomark _))))))
        (pss_one (ps_ret pe_bl))
        (pss_nil))
      (pss_cons (ps_set (i := 9) sc_w_columns_right.nd rfl (by first | exact Or.inl rfl | exact Or.inr rfl) (pm (ctor_Factor T) hr (pa_cons (pe_op (kCatA K) (pe_ix (kIxT K) (pv 4) pe_int (fun _ _ => rfl)) (pe_tup (pa_cons pe_str pa_nil))) (pa_cons (pp (prop_Factor_codes T) hr (pv 5)) pa_nil))))
      (pss_one (ps_if (PW.pt (pw_or (pt_cmpR (op_eqN (cal_Factor___eq__ T) T.O_Factor___eq__ (hr.mono (by decide))) (pv 9) (pv 5) (nomark _)) (pw_or (pt_cmpR (op_or (neX P w K mg base hr) (neTX P w K mg base hr)) (pp (prop_Factor_levels T) hr (pv 5)) (pe_ix (kIxT K) (pv 4) pe_int (fun _ _ => rfl)) (nomark _)) (pw_or1 (pt_cmpR (op_or (neX P w K mg base hr) (neTX P w K mg base hr)) (pp (prop_Factor_codes T) hr (pv 5)) (pe_callTy (kTuple K) (by rfl) T.N_tuple (by decide +kernel) (pa_cons (pe_ix (kIxT K) (pv 4) pe_int (fun _ _ => rfl)) pa_nil)) (nomark _))))))
        (pss_one (ps_ret pe_bl))
        (pss_nil)))))))
        (pss_cons (ps_if (PW.pt (pw_or (pt_cmpR (op_or (kEqN3 (K := K) (cal_Factor___eq__ T) T.O_Factor___eq__ (hr.mono (by decide))) (kEqN3 (K := K) (cal_Numbers___eq__ T) T.O_Numbers___eq__ (hr.mono (by decide)))) (pv 5) (pm (ctor_Factor T) hr (pa_cons (pe_tup (pa_cons pe_str (pa_cons pe_str pa_nil))) (pa_cons (pe_callTy (kTuple K) (by rfl) T.N_tuple (by decide +kernel) (pa_cons (pe_lc (own := [("_law_row", 10)]) (g := gName 10) (tt := tYes) (by rfl) sc_w_columns_right.nd (pi_range1 rfl T.N_range (pa_cons (pv 2) pa_nil)) (blkOk_by (own := [("_law_row", 10)]) (N := n_w_columns_right) (by rfl)) (fun _ _ _ _ _ => pg_name (i := 10) sc_w_columns_right.nd rfl (by first | exact Or.inl rfl | exact Or.inr rfl)) (fun _ _ _ _ _ => pts_nil) (fun _ _ _ _ _ => pe_hid pe_non)) pa_nil)) pa_nil))) (nomark _)) (pw_or1 (pt_cmpR (op_or (kEqN3 (K := K) (cal_Factor___eq__ T) T.O_Factor___eq__ (hr.mono (by decide))) (kEqN3 (K := K) (cal_Numbers___eq__ T) T.O_Numbers___eq__ (hr.mono (by decide)))) (pv 5) (pe_callTy (kTuple K) (by rfl) T.N_tuple (by decide +kernel) (pa_cons (pe_ix (kIxT K) (pv 4) pe_int (fun _ _ => rfl)) pa_nil)) (nomark _)))))
        (pss_one (ps_ret pe_bl))
        (pss_nil))
      (pss_one (ps_if (pt_cmpR (op_or (neX P w K mg base hr) (neTX P w K mg base hr)) (pe_lc (own := [("_law_pair", 11)]) (g := gName 11) (tt := tYes) (by rfl) sc_w_columns_right.nd (pi_or (kPiL K (pe_ix (kIxT K) (pv 4) pe_int (fun _ _ => rfl))) (kPiT K (pe_ix (kIxT K) (pv 4) pe_int (fun _ _ => rfl)))) (blkOk_by (own := [("_law_pair", 11)]) (N := n_w_columns_right) (by rfl)) (fun _ _ _ _ _ => pg_name (i := 11) sc_w_columns_right.nd rfl (by first | exact Or.inl rfl | exact Or.inr rfl)) (fun _ _ _ _ _ => pts_nil) (fun _ _ _ _ _ => pe_hid (pc (cal_w_ratio T) hr (pa_cons (pv 11) pa_nil)))) (pe_callTy (kList K) (by rfl) T.N_list (by decide +kernel) (pa_cons (pp (prop_Numbers_ratios T) hr (pv 5)) pa_nil)) (nomark _))
        (pss_one (ps_ret pe_bl))
        (pss_nil)))))))))
      (pss_one (ps_ret pe_bl)), ?_⟩
  obtain ⟨rs, m, n, hx, hy, hok, hm, rfl, hn, k⟩ := h
  have big : 100000 ≤ sizeLine := by decide
  repeat walk_at "ru"
  refine forL hy fun J W hz => ?_
  refine forK W (fun j σ' H' => Same H H' ∧ ∃ x3 x4 x5 x6 x7 x8 x9 x10 x11 : Option V, σ' = [some v0, some v1, some (.int (n : Int)), x3, x4, x5, x6, x7, x8, x9, x10, x11]) ⟨Same.refl _, _, _, _, _, _, _, _, _, _, rfl⟩ (fun i σ' H' h => h.1) ?_ ?_
  · rintro j σ' H7 ⟨nm, D⟩ y H8 hj ⟨e67, x3, x4, x5, x6, x7, x8, x9, x10, x11, rfl⟩ e78 e08 hy8
    refine rd_gpair (a := nm) (b := D) hy8 fun y1 y2 hy1 hy2 => ?_
    obtain rfl : y1 = V.str nm := hy1
    have hrm := List.mem_of_getElem? hj
    have hD := hok.ok _ hrm
    have hlong := hD.long
    repeat walk_at "ru"
    refine ⟨_, rfl, D, n, hy2, hD, hn, fun v1 H1 e1 hv1 => ?_⟩
    have e01 := e08.trans e1
    have hcl : (toC D).long = n := by rw [toC_long]; exact hlong
    repeat walk_at "ru"
    refine lenU_at hv1 (by omega) ?_
    rw [hcl]
    repeat walk_at "ru"
    rw [decide_eq_true (rfl : (n : Int) = n)]
    repeat walk_at "ru"
    refine ⟨_, rfl, D, n, Up.up e1 hy2, hD, hn, fun v2 H2 e2 hv2 => ?_⟩
    have e02 := e01.trans e2
    have hv1' := Up.up (R := ColR K) e2 hv1
    cases D with
    | fac ls cs =>
      have hf1 : FacR K H2 v1 (ls, cs) := hv1'
      have hf2 : FacR K H2 v2 (ls, cs) := hv2
      obtain ⟨hls, hcs⟩ := hD.fac ls cs rfl
      refine .inl ⟨hf1.own, .inl hf2.own, ?_⟩
      refine ⟨_, _, rfl, _, hf1, .inl ⟨_, hf2, fun H3 e3 => ⟨true, by simp, ?_⟩⟩⟩
      have e03 := e02.trans e3
      have hy3 := Up.up (R := LcR K) ((e1.trans e2).trans e3) hy2
      obtain ⟨pc, vl, vc, rfl, sc, hl, hc⟩ := id hy3
      have hf3 := Up.up (R := FacR K) e3 hf1
      repeat walk_at "ru"
      rw [show (true != true) = false from rfl]
      repeat walk_at "ru"
      refine rd_propU ?_
      repeat walk_at "ru"
      refine kindU_at (D := .fac ls cs) hf3 ?_
      repeat walk_at "ru"
      refine ⟨pc, _, 0, _, rfl, rfl, sc, rfl, ?_⟩
      repeat walk_at "ru"
      rw [decide_eq_true (show (ColD.fac ls cs).kind = "factor" from rfl)]
      repeat walk_at "ru"
      refine ⟨pc, _, 0, _, rfl, rfl, sc, rfl, ?_⟩
      repeat walk_at "ru"
      rw [decide_eq_true rfl]
      repeat walk_at "ru"
      refine ⟨pc, _, 2, _, rfl, rfl, sc, rfl, ?_⟩
      refine lcL hc fun J W hz => lcK_name (S := RLv ls) (K := K) W hz (fun o => o) (fun v4 H4 e4 hv4 => ?_) (fun o G x hom e4 hx Kt hk => ?_)
      rotate_right
      · cases o with
        | none =>
          obtain rfl : x = V.non := hx
          repeat walk_at "ru"
          refine ⟨rfl, ?_⟩
          rw [decide_eq_true rfl]
          repeat walk_at "ru"
          exact hk _ _ (Same.refl _) rfl
        | some c =>
          obtain rfl : x = V.int c := hx.1
          have hcb := hcs.2 c hom
          obtain ⟨i, rfl⟩ : ∃ i : Nat, c = (i : Int) := ⟨c.toNat, by omega⟩
          have hi : i < ls.length := by omega
          repeat walk_at "ru"
          refine ⟨rfl, ?_⟩
          rw [decide_eq_false (fun z => by cases z)]
          repeat walk_at "ru"
          refine ⟨pc, _, 1, _, rfl, rfl, Same.seqT e4 sc, rfl, ?_⟩
          repeat walk_at "ru"
          refine .inr (rd_ixT (n := i) (a := ls[i]) (Up.up e4 hl) (List.getElem?_eq_getElem hi) fun w hw => ?_)
          exact hk _ _ (Same.refl _) ⟨i, rfl, hi, hw⟩
      rw [List.map_id'] at hv4
      have e04 := e03.trans e4
      repeat walk_at "ru"
      refine rd_tupleL hv4 fun w5 H5 e5 hw5 => ?_
      have e05 := e04.trans e5
      have e35 := e4.trans e5
      repeat walk_at "ru"
      refine ⟨pc, _, 1, _, rfl, rfl, Same.seqT e35 sc, rfl, ?_⟩
      repeat walk_at "ru"
      refine rd_slTf (Up.up e35 hl) 1 fun v6 H6 e6 hv6 => ?_
      have e36 := e35.trans e6
      repeat walk_at "ru"
      refine ⟨pc, _, 1, _, rfl, rfl, Same.seqT e36 sc, rfl, ?_⟩
      repeat walk_at "ru"
      refine rd_slTo (Up.up e36 hl) 1 fun v7 H7b e7 hv7 => ?_
      have e37 := e36.trans e7
      repeat walk_at "ru"
      have h5 := hls.five
      refine rd_catT (Up.up e7 hv6) hv7 (by rw [List.length_drop, List.length_take]; omega) fun v8 H8b e8 hv8 => ?_
      have e38 := e37.trans e8
      obtain ⟨a1, dx1, vs1, rfl, sl1⟩ := id hf3.own
      repeat walk_at "ru"
      refine ⟨a1, dx1, vs1, rfl, Slt.up e38 sl1, _, rfl, _, Up.up e38 hf3, fun v9 hv9 => ?_⟩
      repeat walk_at "ru"
      have hlt := hls.ok.turn
      have hll : (ls.drop 1 ++ ls.take 1).length = ls.length := by rw [List.length_append, List.length_drop, List.length_take]; have := hls.ok.two; omega
      refine ⟨_, _, rfl, _, _, hv8, hv9, hlt, by rw [hll]; exact hcs, fun v10 H10 e10 hv10 => ?_⟩
      have e3A := e38.trans e10
      repeat walk_at "ru"
      refine ⟨rfl, ?_⟩
      repeat walk_at "ru"
      refine ⟨pc, _, 1, _, rfl, rfl, Same.seqT e3A sc, rfl, ?_⟩
      repeat walk_at "ru"
      have eB := ((((e6.trans e7).trans e8).trans e10))
      refine ⟨_, _, _, rfl, ls, cs, rfl, Up.up e3A hl, Up.up eB hw5, hls.ok, hcs, fun v11 H11 e11 hv11 => ?_⟩
      have e3B := e3A.trans e11
      repeat walk_at "ru"
      have hfB := Up.up (R := FacR K) e3B hf3
      refine ⟨hv11.own, .inl hfB.own, _, _, rfl, _, hv11, .inl ⟨_, hfB, fun H12 e12 => ⟨true, by simp, ?_⟩⟩⟩
      rw [show (true != true) = false from rfl]
      have e3C := e3B.trans e12
      repeat walk_at "ru"
      have hfC := Up.up (R := FacR K) e3C hf3
      have hvC := Up.up (R := FacR K) (e11.trans e12) hv10
      refine ⟨hvC.own, .inl hfC.own, _, _, rfl, _, hvC, .inl ⟨_, hfC, fun H13 e13 => ⟨false, by rw [decide_eq_false fun z => turn_ne hls.ok (Prod.mk.inj z).1], ?_⟩⟩⟩
      have e3D := e3C.trans e13
      repeat walk_at "ru"
      rw [show (false != false) = false from rfl]
      repeat walk_at "ru"
      refine ⟨pc, _, 2, _, rfl, rfl, Same.seqT e3D sc, rfl, ?_⟩
      have hfD := Up.up (R := FacR K) e3D hf3
      have hcD := Up.up (R := RL K RIo) e3D hc
      refine .inl ⟨hfD.own, .inr (.inr hcD.at3), _, _, rfl, _, hfD, .inr ⟨⟨_, HasTy.rl hcD, T.K_list_Factor⟩, false, rfl, ?_⟩⟩
      repeat walk_at "ru"
      refine ⟨pc, _, 1, _, rfl, rfl, Same.seqT e3D sc, rfl, ?_⟩
      repeat walk_at "ru"
      refine ⟨by show 1 ≤ sizeLine; decide, fun p14 hp14 => ?_⟩
      have e14 : Same H13 (upd H13 p14 (.tup [.str "q"])) := Same.new hp14
      have hq14 : RT K RS (upd H13 p14 (.tup [.str "q"])) (.ref p14) (["q"] : List Str) := ⟨p14, _, rfl, .inl (.inl upd_same), RAll.strs (ns := (["q"] : List Str)), by show 1 ≤ sizeLine; decide⟩
      generalize upd H13 p14 (.tup [.str "q"]) = H14 at e14 hq14 ⊢
      have e3E := e3D.trans e14
      refine rd_catT (Up.up e3E hl) hq14 (by show _ + 1 ≤ _; omega) fun v15 H15 e15 hv15 => ?_
      have e3F := e3E.trans e15
      repeat walk_at "ru"
      refine ⟨a1, dx1, vs1, rfl, Slt.up e3F sl1, _, rfl, _, Up.up e3F hf3, fun v16 hv16 => ?_⟩
      repeat walk_at "ru"
      refine ⟨_, _, rfl, _, _, hv15, hv16, hls.wide, hcs.to (by rw [List.length_append]; omega), fun v17 H17 e17 hv17 => ?_⟩
      have e3G := e3F.trans e17
      have hfG := Up.up (R := FacR K) e3G hf3
      repeat walk_at "ru"
      refine ⟨hv17.own, .inl hfG.own, _, _, rfl, _, hv17, .inl ⟨_, hfG, fun H18 e18 => ⟨false, by rw [decide_eq_false fun z => wide_ne (Prod.mk.inj z).1], ?_⟩⟩⟩
      rw [show (false != false) = false from rfl]
      have e3H := e3G.trans e18
      repeat walk_at "ru"
      refine ⟨a1, dx1, vs1, rfl, Slt.up e3H sl1, _, rfl, _, Up.up e3H hf3, fun v19 hv19 => ?_⟩
      repeat walk_at "ru"
      refine ⟨pc, _, 1, _, rfl, rfl, Same.seqT e3H sc, rfl, ?_⟩
      refine .inl (rd_neX (nc_tup ei_str) hv19 (Up.up e3H hl) fun H20 e20 => ?_)
      rw [decide_eq_true (rfl : (ls, cs).1 = ls)]
      have e3I := e3H.trans e20
      repeat walk_at "ru"
      refine ⟨a1, dx1, vs1, rfl, Slt.up e3I sl1, _, rfl, _, Up.up e3I hf3, fun v21 hv21 => ?_⟩
      repeat walk_at "ru"
      refine ⟨pc, _, 2, _, rfl, rfl, Same.seqT e3I sc, rfl, ?_⟩
      repeat walk_at "ru"
      refine rd_tupleL (Up.up e3I hc) fun w22 H22 e22 hw22 => ?_
      refine .inl (rd_neX (nc_tup ei_rio) (Up.up e22 hv21) hw22 fun H23 e23 => ?_)
      rw [decide_eq_true (rfl : (ls, cs).2 = cs)]
      repeat walk_at "ru"
      exact ⟨((e03.trans e3I).trans e22).trans e23, _, _, _, _, _, _, _, _, _, rfl⟩
    | num ws =>
      have hf1 : NumR K H2 v1 (ws.map (Option.map toQ)) := hv1'
      have hf2 : NumR K H2 v2 (ws.map (Option.map toQ)) := hv2
      refine .inr ⟨hf1.own, .inl hf2.own, ?_⟩
      refine ⟨_, _, rfl, _, hf1, .inl ⟨hf2, fun H3 e3 => ⟨true, rfl, ?_⟩⟩⟩
      have e03 := e02.trans e3
      have hy3 := Up.up (R := LcR K) ((e1.trans e2).trans e3) hy2
      obtain ⟨pc, vw, rfl, sc, hw⟩ := id hy3
      have hf3 := Up.up (R := NumR K) e3 hf1
      repeat walk_at "ru"
      rw [show (true != true) = false from rfl]
      repeat walk_at "ru"
      refine rd_propU ?_
      repeat walk_at "ru"
      refine kindU_at (D := .num (ws.map (Option.map toQ))) hf3 ?_
      repeat walk_at "ru"
      refine ⟨pc, _, 0, _, rfl, rfl, sc, rfl, ?_⟩
      repeat walk_at "ru"
      rw [decide_eq_true (show (ColD.num (ws.map (Option.map toQ))).kind = "number" from rfl)]
      repeat walk_at "ru"
      refine ⟨pc, _, 0, _, rfl, rfl, sc, rfl, ?_⟩
      repeat walk_at "ru"
      rw [decide_eq_false num_ne]
      repeat walk_at "ru"
      refine ⟨by show 2 ≤ sizeLine; decide, fun p4 hp4 => ?_⟩
      have e4 : Same H3 (upd H3 p4 (.tup [.str "a", .str "b"])) := Same.new hp4
      have hp4 : RT K RS (upd H3 p4 (.tup [.str "a", .str "b"])) (.ref p4) (["a", "b"] : List Str) := ⟨p4, _, rfl, .inl (.inl upd_same), RAll.strs (ns := (["a", "b"] : List Str)), by show 2 ≤ sizeLine; decide⟩
      generalize upd H3 p4 (.tup [.str "a", .str "b"]) = H4 at e4 hp4 ⊢
      repeat walk_at "ru"
      refine lcR1 (by omega) (fun J W hz => lcK_name (S := RIo) (K := K) W hz (fun i : Int => (none : Option Int)) (fun v6 H6 e6 hv6 => ?_) (fun i G x him e6 hx2 Kt hk2 => ?_)) (by omega)
      rotate_right
      · repeat walk_at "ru"
        exact hk2 _ _ (Same.refl _) rfl
      repeat walk_at "ru"
      refine rd_tupleL hv6 fun w7 H7b e7 hw7 => ?_
      have e37 := (e4.trans e6).trans e7
      repeat walk_at "ru"
      refine ⟨_, _, rfl, _, _, Up.up (e6.trans e7) hp4, hw7, ⟨by decide, by decide, by decide +kernel, by decide +kernel⟩, ⟨by rw [List.length_map, rgI_len]; omega, fun n hn => by
        obtain ⟨_, _, h⟩ := List.mem_map.mp hn
        cases h⟩, fun v8 H8b e8 hv8 => ?_⟩
      have e38 := e37.trans e8
      have hf8 := Up.up (R := NumR K) e38 hf3
      repeat walk_at "ru"
      refine .inr ⟨hf8.own, .inr (.inl ⟨gA "Factor" K, hv8.own, T.K_Factor_Numbers⟩), _, _, rfl, _, hf8, .inr ⟨⟨_, HasTy.own (slN2 T.C_Factor) hv8.own, T.K_Factor_Numbers⟩, false, rfl, ?_⟩⟩
      repeat walk_at "ru"
      refine ⟨pc, _, 1, _, rfl, rfl, Same.seqT e38 sc, rfl, ?_⟩
      repeat walk_at "ru"
      refine rd_tupleL (Up.up e38 hw) fun w9 H9 e9 hw9 => ?_
      have e39 := e38.trans e9
      have hf9 := Up.up (R := NumR K) e39 hf3
      repeat walk_at "ru"
      refine .inr ⟨hf9.own, .inr (.inr hw9.at3), _, _, rfl, _, hf9, .inr ⟨⟨_, HasTy.rt hw9, T.K_tuple_Numbers⟩, false, rfl, ?_⟩⟩
      repeat walk_at "ru"
      refine rd_lcO (.inl ?_)
      repeat walk_at "ru"
      refine ⟨pc, _, 1, _, rfl, rfl, Same.seqT e39 sc, rfl, ?_⟩
      repeat walk_at "ru"
      refine lcL (Up.up e39 hw) fun J W hz => lcK_name (S := RQo K) (K := K) W hz (fun o => o.map toQ) (fun v10 H10 e10 hv10 => ?_) (fun o G x hom e10 hx Kt hk => ?_)
      rotate_right
      · repeat walk_at "ru"
        exact ⟨_, rfl, o, hx, hD.num ws rfl o hom, fun v H' e hv => hk _ _ e hv⟩
      have e3A := e39.trans e10
      obtain ⟨a1, dx1, vs1, rfl, sl1⟩ := id hf3.own
      have hfA := Up.up (R := NumR K) e3A hf3
      repeat walk_at "ru"
      refine ⟨a1, dx1, vs1, rfl, Slt.up e3A sl1, _, rfl, _, hfA, fun v11 hv11 => ?_⟩
      repeat walk_at "ru"
      refine rd_listT hv11 fun w12 H12 e12 hw12 => ?_
      refine .inr (rd_neT (rn_lst (et_rqo T (by decide))) (Up.up e12 hv10) hw12 fun H13 e13 => ?_)
      repeat walk_at "ru"
      exact ⟨((e03.trans e3A).trans e12).trans e13, _, _, _, _, _, _, _, _, _, rfl⟩
  · rintro σ' H7 ⟨e67, x3, x4, x5, x6, x7, x8, x9, x10, x11, rfl⟩
    repeat walk_at "ru"
    exact k _ e67
))
theorem prop_Table_kinds (T : Tx P K mg) : Prp P w K mg base 3 (gA "Table" K) "kinds" (sp_Table_kinds K) := ⟨_, T.P_Table_kinds, T.C_Table.cl, cal_Table_kinds T⟩
theorem tab_str {rs : Rows} {n : Nat} (h : ¬srtC (rowsC rs) = []) : tabStr (tabOf rs n) = ("table of " : Str) ++ Str.ofString (toString (n : Int)) ++ (" rows" : Str) ++ (": " : Str) ++ Txt.join ", " ((srtC (rowsC rs)).map colWord) := @NI.run _ (by exact NI.carry : NI.Carry (by
  unfold tabStr
  rw [if_neg (show ¬(tabOf rs n).cs = [] from h), str_nil, str_assoc (_ ++ _) " rows" ": "]
  rfl
))
theorem col_eq3 {K : PySem.W.Frag} {H : Hp} {x y : V} {D : ColD} {Q : VK} (h1 : ColR K H x D) (h2 : ColR K H y D) (q : ∀ H', Same H H' → Q (.bl true) H') : rEqN3 K (gA "Factor" K) (sp_Factor___eq__ K) x y H Q ∨ rEqN3 K (gA "Numbers" K) (sp_Numbers___eq__ K) x y H Q := @NI.run _ (by exact NI.carry : NI.Carry (by
  cases D with
  | fac ls cs =>
    have h1 : FacR K H x (ls, cs) := h1
    have h2 : FacR K H y (ls, cs) := h2
    exact .inl ⟨h1.own, .inl (.inl h2.own), _, _, rfl, _, h1, .inl ⟨_, h2, fun H' e => ⟨true, by simp, q _ e⟩⟩⟩
  | num qs =>
    have h1 : NumR K H x qs := h1
    have h2 : NumR K H y qs := h2
    exact .inr ⟨h1.own, .inl (.inl h2.own), _, _, rfl, _, h1, .inl ⟨h2, fun H' e => ⟨true, rfl, q _ e⟩⟩⟩
))
theorem RwOk.rev {rs : Rows} {m n : Nat} (h : RwOk rs m n) : RwOk rs.reverse m n := ⟨⟨by rw [List.map_reverse, List.length_reverse]; exact h.nm.len, by rw [List.map_reverse]; exact (List.reverse_perm _).nodup_iff.mpr h.nm.nd, fun z hz => h.nm.pool z (by rw [List.map_reverse] at hz; exact List.mem_reverse.mp hz)⟩, fun r hr => h.ok r (List.mem_reverse.mp hr)⟩
theorem srt_rev {rs : Rows} (h : (rs.map (·.1)).Nodup) : srtC (rowsC rs.reverse) = srtC (rowsC rs) := @NI.run _ (by exact NI.carry : NI.Carry (by
  refine srtC_of (srtC_perm.trans ?_) srtC_srt (by rw [rowsC_names]; exact h)
  unfold rowsC
  rw [List.map_reverse]
  exact List.reverse_perm _
))
theorem rd_slLFrom {K : PySem.W.Frag} {α : Type} {R : Rl α} [Up R] {H : Hp} {x : V} {as : List α} {Q : VK} (h : RL K R H x as) (n : Nat) (k : ∀ v H', Same H H' → RL K R H' v (as.drop n) → Q v H') : rSlL K x (some (n : Int)) none H Q := @NI.run _ (by exact NI.carry : NI.Carry (by
  obtain ⟨a, xs, rfl, s1, r1, z1⟩ := h
  have r3 := RAll.drop n r1
  have ec : cutV xs (some (n : Int)) none = xs.drop n := by
    unfold cutV
    rw [HT.sIx_none, HT.sIx_nat]
    by_cases h : n ≤ xs.length
    · rw [Nat.min_eq_left h, List.take_of_length_le (by rw [List.length_drop]; omega)]
    · rw [Nat.min_eq_right (by omega), List.drop_of_length_le (Nat.le_refl _), List.drop_of_length_le (by omega), List.take_nil]
  refine ⟨a, xs, rfl, s1, fun p hp => ?_⟩
  rw [ec]
  exact k _ _ (Same.new hp) (RL.mk hp r3 (by rw [List.length_drop]; omega))
))
instance {K : PySem.W.Frag} : Up (RN K) := ⟨fun {H H' v o} e h => by
  cases o with
  | some z => exact h
  | none =>
    obtain ⟨t, h1, h2⟩ := h
    exact ⟨t, Up.up (R := RTy K) e h1, h2⟩⟩
theorem in_names {rs : Rows} {m n : Nat} (tok : TOk (tabOf rs n)) (hok : RwOk rs m n) : ([some "a", some "b", some "q", some "", none, none, none] : List (Option Str)).map (oR fun z => decide (z ∈ (tabOf rs n).cs.map (·.1))) = [decide (("a" : Str) ∈ (srtC (rowsC rs)).map (·.1)), decide (("b" : Str) ∈ (srtC (rowsC rs)).map (·.1))] ++ List.replicate 5 false := @NI.run _ (by exact NI.carry : NI.Carry (by
  have h : ∀ z ∈ (srtC (rowsC rs)).map (·.1), z ∈ POOLN := fun z hz => by
    obtain ⟨c, hc, rfl⟩ := List.mem_map.mp hz
    obtain ⟨r, hr, rfl⟩ := rows_mem hc
    exact hok.nm.pool _ (List.mem_map.mpr ⟨r, hr, rfl⟩)
  have hq : decide (("q" : Str) ∈ (tabOf rs n).cs.map (·.1)) = false := decide_eq_false fun z => absurd (h _ z) (by decide +kernel)
  have he : decide (("" : Str) ∈ (tabOf rs n).cs.map (·.1)) = false := decide_eq_false fun z => absurd (h _ z) (by decide +kernel)
  show [_, _, decide (("q" : Str) ∈ (tabOf rs n).cs.map (·.1)), decide (("" : Str) ∈ (tabOf rs n).cs.map (·.1)), false, false, false] = _
  rw [hq, he]
  rfl
))
theorem with_rest {G : Prop} {H7 : Hp} (R : Hp → Prop) (h1 : (∀ HB, Same H7 HB → R HB) → G) (h2 : ∀ HB, Same H7 HB → R HB) : G := h1 h2
theorem lcr_kind {K : PySem.W.Frag} {H : Hp} {v : V} {D : LC} {Q : VK} (h : LcR K H v D) (q : Q (.str (toC D).kind) H) : rIxT K v (.int 0) H Q := @NI.run _ (by exact NI.carry : NI.Carry (by
  cases D with
  | fac ls cs =>
    obtain ⟨pc, vl, vc, rfl, sc, _, _⟩ := h
    exact ⟨pc, _, 0, _, rfl, rfl, sc, rfl, q⟩
  | num ws =>
    obtain ⟨pc, vw, rfl, sc, _⟩ := h
    exact ⟨pc, _, 0, _, rfl, rfl, sc, rfl, q⟩
))
def wordOf (c : Str × ColD) : Str := c.1 ++ (" " : Str) ++ c.2.kind
theorem word_of : wordOf = colWord := @NI.run _ (by exact NI.carry : NI.Carry (by
  funext c
  show _ = (Str.empty ++ c.1) ++ _ ++ _
  rw [str_nil]
  rfl
))
def sp_w_right (K : PySem.W.Frag) : Sp := sp1 fun x H Q _ => Reel H x ∧ ∀ H', Same H H' → Q (.bl true) H'
abbrev n_w_right : List Str := ["_law_reel_here", "_law_total", "_law_many", "_law_rows_here", "_law_table_here", "_law_names_here", "_law_name", "_law_column_here", "_law_words", "_law_head", "_law_word"]
theorem sc_w_right : FnScope n_w_right ["_law_reel_here"] (defScope s_w_right) := ⟨rfl, rfl, rfl, by decide +kernel, rfl, by decide +kernel, by decide +kernel⟩
theorem cal_w_right (T : Tx P K mg) : Cal P w K mg base 15 "_law_right" (sp_w_right K) := @NI.run _ (by exact NI.carry : NI.Carry (by
  refine cal_of (k := 14) T.G_w_right T.D_w_right sc_w_right (fun _ _ _ _ _ _ us hl => match us, hl with | [_], _ => rfl) (fun vs H Q E h => ?_) (fun cdv A outer s H vs Q E hr h => ?_)
  · obtain ⟨v0, rfl, _⟩ := h
    rfl
  obtain ⟨v0, rfl, h⟩ := h
  refine ⟨_, pss_cons (ps_par (i := 1) (j := 2) (by rfl) sc_w_right.nd rfl rfl (by decide) rfl rfl (pa_cons (pc (cal_turn T) hr (pa_cons (pv 0) (pa_cons pe_int pa_nil))) (pa_cons (pc (cal_turn T) hr (pa_cons (pv 0) (pa_cons pe_int pa_nil))) pa_nil)) (by rfl))
      (pss_cons (ps_set (i := 3) sc_w_right.nd rfl (by first | exact Or.inl rfl | exact Or.inr rfl) (pc (cal_w_rows T) hr (pa_cons (pv 0) (pa_cons (pv 2) (pa_cons (pv 1) pa_nil)))))
      (pss_cons (ps_asg (pe_tup (pa_cons (pc (cal_w_table T) hr (pa_cons (pv 3) (pa_cons (pv 1) pa_nil))) (pa_cons (pe_callB (kSrtS K) (by rfl) T.N_sorted (by decide +kernel) (pa_cons (pe_lc (own := [("_law_name", 6), ("_law_column_here", 7)]) (g := gTup K 2 (gCons (gName 6) (gCons (gName 7) gNil))) (tt := tYes) (by rfl) sc_w_right.nd (kPiL K (pv 3)) (blkOk_by (own := [("_law_name", 6), ("_law_column_here", 7)]) (N := n_w_right) (by rfl)) (fun _ _ _ _ _ => kTup K (by rfl) (pgs_cons (pg_name (i := 6) sc_w_right.nd rfl (by first | exact Or.inl rfl | exact Or.inr rfl)) (pgs_cons (pg_name (i := 7) sc_w_right.nd rfl (by first | exact Or.inl rfl | exact Or.inr rfl)) pgs_nil))) (fun _ _ _ _ _ => pts_nil) (fun _ _ _ _ _ => pe_hid (pv 6))) pa_nil)) pa_nil))) (kTup K (by rfl) (pgs_cons (pg_name (i := 4) sc_w_right.nd rfl (by first | exact Or.inl rfl | exact Or.inr rfl)) (pgs_cons (pg_name (i := 5) sc_w_right.nd rfl (by first | exact Or.inl rfl | exact Or.inr rfl)) pgs_nil))))
      (pss_cons (ps_if (PW.pt (pw_or (pt_cmpR (op_or (neX P w K mg base hr) (neTX P w K mg base hr)) (pc (cal_w_shown T) hr (pa_cons (pv 4) pa_nil)) (pc (cal_w_due T) hr (pa_cons (pv 3) (pa_cons (pv 1) pa_nil))) (nomark _)) (pw_or1 (pt_cmpR (op_or (neX P w K mg base hr) (neTX P w K mg base hr)) (pp (prop_Table_names T) hr (pv 4)) (pe_callTy (kTuple K) (by rfl) T.N_tuple (by decide +kernel) (pa_cons (pv 5) pa_nil)) (nomark _)))))
        (pss_one (ps_ret pe_bl))
        (pss_nil))
      (pss_cons (ps_if (PW.pt (pw_or (pt_cmpR (op_or (neX P w K mg base hr) (neTX P w K mg base hr)) (pe_callTy (call_list_dK rfl) (by rfl) T.N_list (by decide +kernel) (pa_cons (pp (prop_Table_columns T) hr (pv 4)) pa_nil)) (pv 5) (nomark _)) (pw_or1 (pt_cmpR (op_or (neX P w K mg base hr) (neTX P w K mg base hr)) (pe_callTy (call_list_dK rfl) (by rfl) T.N_list (by decide +kernel) (pa_cons (pp (prop_Table_kinds T) hr (pv 4)) pa_nil)) (pv 5) (nomark _)))))
        (pss_one (ps_ret pe_bl))
        (pss_nil))
      (pss_cons (ps_setLc (i := 8) (own := [("_law_name", 6)]) (g := gName 6) (tt := tYes) (by rfl) sc_w_right.nd rfl rfl (sw_true rfl rfl rfl (by decide +kernel)) (kPiL K (pv 5)) (blkOk_by (own := [("_law_name", 6)]) (N := n_w_right) (by rfl)) (fun _ _ _ _ _ => pg_name (i := 6) sc_w_right.nd rfl (by first | exact Or.inl rfl | exact Or.inr rfl)) (fun _ _ _ _ _ => pts_nil) (fun _ _ _ _ _ => pe_hid (pe_op op_add_str (pe_op op_add_str (pv 6) pe_str) (pe_ix (kIxT K) (pc (cal_w_own T) hr (pa_cons (pv 3) (pa_cons (pv 6) pa_nil))) pe_int (fun _ _ => rfl)))))
      (pss_cons (ps_set (i := 9) sc_w_right.nd rfl (by first | exact Or.inl rfl | exact Or.inr rfl) (pe_op op_add_str (pe_op op_add_str pe_str (pe_callTy call_str_int (by rfl) T.N_str (by decide +kernel) (pa_cons (pv 1) pa_nil))) pe_str))
      (pss_cons (ps_if (PW.pt (pw_and (pt_cmpR (op_or (op_or (neX P w K mg base hr) (neTX P w K mg base hr)) (neE hr)) (pv 5) (pe_lst pa_nil) (nomark _)) (pw_and1 (pt_cmpR op_ne (pe_callTy (call_strN (cal_Table___str__ T) T.O_Table___str__ (hr.mono (by decide))) (by rfl) T.N_str (by decide +kernel) (pa_cons (pv 4) pa_nil)) (pe_op op_add_str (pe_op op_add_str (pv 9) pe_str) (pe_join pe_str (pv 8))) (nomark _)))))
        (pss_one (ps_ret pe_bl))
        (pss_nil))
      (pss_cons (ps_if (pt_cmpR (op_or (neX P w K mg base hr) (neTX P w K mg base hr)) (pe_lc (own := [("_law_name", 6)]) (g := gName 6) (tt := tYes) (by rfl) sc_w_right.nd (kPiL K (pv 5)) (blkOk_by (own := [("_law_name", 6)]) (N := n_w_right) (by rfl)) (fun _ _ _ _ _ => pg_name (i := 6) sc_w_right.nd rfl (by first | exact Or.inl rfl | exact Or.inr rfl)) (fun _ _ _ _ _ => pts_nil) (fun _ _ _ _ _ => pe_hid (pe_dget (hu_of hr) (pp (prop_Table_kinds T) hr (pv 4)) (pv 6) (fun _ _ => rfl)))) (pe_lc (own := [("_law_name", 6)]) (g := gName 6) (tt := tYes) (by rfl) sc_w_right.nd (kPiL K (pv 5)) (blkOk_by (own := [("_law_name", 6)]) (N := n_w_right) (by rfl)) (fun _ _ _ _ _ => pg_name (i := 6) sc_w_right.nd rfl (by first | exact Or.inl rfl | exact Or.inr rfl)) (fun _ _ _ _ _ => pts_nil) (fun _ _ _ _ _ => pe_hid (pe_ix (kIxT K) (pc (cal_w_own T) hr (pa_cons (pv 3) (pa_cons (pv 6) pa_nil))) pe_int (fun _ _ => rfl)))) (nomark _))
        (pss_one (ps_ret pe_bl))
        (pss_nil))
      (pss_cons (ps_if (pt_cmpR (op_or (neX P w K mg base hr) (neTX P w K mg base hr)) (pe_lc (own := [("_law_name", 6)]) (g := gName 6) (tt := tYes) (by rfl) sc_w_right.nd (kPiL K (pv 5)) (blkOk_by (own := [("_law_name", 6)]) (N := n_w_right) (by rfl)) (fun _ _ _ _ _ => pg_name (i := 6) sc_w_right.nd rfl (by first | exact Or.inl rfl | exact Or.inr rfl)) (fun _ _ _ _ _ => pts_nil) (fun _ _ _ _ _ => pe_hid (pe_cmpR (op_or (kEqN3 (K := K) (cal_Factor___eq__ T) T.O_Factor___eq__ (hr.mono (by decide))) (kEqN3 (K := K) (cal_Numbers___eq__ T) T.O_Numbers___eq__ (hr.mono (by decide)))) (pe_dget (hu_of hr) (pp (prop_Table_columns T) hr (pv 4)) (pv 6) (fun _ _ => rfl)) (pc (cal_w_made T) hr (pa_cons (pc (cal_w_own T) hr (pa_cons (pv 3) (pa_cons (pv 6) pa_nil))) pa_nil)) (nomark _)))) (pe_lc (own := [("_law_name", 6)]) (g := gName 6) (tt := tYes) (by rfl) sc_w_right.nd (kPiL K (pv 5)) (blkOk_by (own := [("_law_name", 6)]) (N := n_w_right) (by rfl)) (fun _ _ _ _ _ => pg_name (i := 6) sc_w_right.nd rfl (by first | exact Or.inl rfl | exact Or.inr rfl)) (fun _ _ _ _ _ => pts_nil) (fun _ _ _ _ _ => pe_hid pe_bl)) (nomark _))
        (pss_one (ps_ret pe_bl))
        (pss_nil))
      (pss_cons (ps_if (PW.pt (pw_or (pt_cmpR (op_neN (cal_Table___eq__ T) T.O_Table___eq__ T.Q_Table___ne__ T.C_Table.si.cm (hr.mono (by decide))) (pc (cal_w_table T) hr (pa_cons (kRevL K (pv 3)) (pa_cons (pv 1) pa_nil))) (pv 4) (nomark _)) (pw_or1 (PW.pt (pw_and (pt_cmpR (op_or (op_or (neX P w K mg base hr) (neTX P w K mg base hr)) (neE hr)) (pv 5) (pe_lst pa_nil) (nomark _)) (pw_and1 (pt_cmpR (op_neN (cal_Table___eq__ T) T.O_Table___eq__ T.Q_Table___ne__ T.C_Table.si.cm (hr.mono (by decide))) (pc (cal_w_table T) hr (pa_cons (pv 3) (pa_cons pe_non pa_nil))) (pv 4) (nomark _))))))))
        (pss_one (ps_ret pe_bl))
        (pss_nil))
      (pss_cons (ps_if (PW.pt (pw_or (PW.pt (pw_and (pt_cmpR (op_or (op_or (neX P w K mg base hr) (neTX P w K mg base hr)) (neE hr)) (pv 5) (pe_lst pa_nil) (nomark _)) (pw_and1 (pt_cmpR (op_eqN (cal_Table___eq__ T) T.O_Table___eq__ (hr.mono (by decide))) (pv 4) (pe_methN (cal_Table_shown T) T.O_Table_shown T.C_Table.cl hr takesE (pv 4) (pa_cons (pe_callTy (kTuple K) (by rfl) T.N_tuple (by decide +kernel) (pa_cons (pe_slice sl_list (pv 5) (po_some pe_int) po_none) pa_nil)) pa_nil)) (nomark _))))) (pw_or (pt_cmpR (kEqN3 (K := K) (cal_Table___eq__ T) T.O_Table___eq__ (hr.mono (by decide))) (pv 4) (pv 3) (nomark _)) (pw_or1 (pt_cmpR (op_eqN (cal_Table___eq__ T) T.O_Table___eq__ (hr.mono (by decide))) (pv 4) pe_int (nomark _))))))
        (pss_one (ps_ret pe_bl))
        (pss_nil))
      (pss_cons (ps_if (pt_cmpR (op_or (neX P w K mg base hr) (neTX P w K mg base hr)) (pe_lc (own := [("_law_word", 10)]) (g := gName 10) (tt := tYes) (by rfl) sc_w_right.nd (kPiL K (pe_lst (pa_cons pe_str (pa_cons pe_str (pa_cons pe_str (pa_cons pe_str (pa_cons pe_int (pa_cons pe_non (pa_cons (pe_tup (pa_cons pe_str pa_nil)) pa_nil))))))))) (blkOk_by (own := [("_law_word", 10)]) (N := n_w_right) (by rfl)) (fun _ _ _ _ _ => pg_name (i := 10) sc_w_right.nd rfl (by first | exact Or.inl rfl | exact Or.inr rfl)) (fun _ _ _ _ _ => pts_nil) (fun _ _ _ _ _ => pe_hid (pe_cmpR (op_inN (cal_Table___contains__ T) T.O_Table___contains__ (hr.mono (by decide))) (pv 10) (pv 4) (by with_unfolding_all rfl)))) (pe_op (kCatL K) (pe_lst (pa_cons (pe_cmpR (kInSeq K) pe_str (pv 5) (by with_unfolding_all rfl)) (pa_cons (pe_cmpR (kInSeq K) pe_str (pv 5) (by with_unfolding_all rfl)) pa_nil))) (pe_op op_rep (pe_lst (pa_cons pe_bl pa_nil)) pe_int)) (nomark _))
        (pss_one (ps_ret pe_bl))
        (pss_nil))
      (pss_cons (ps_if (PW.pt (pw_or (pt_not (pt_val (pc (cal_w_columns_right T) hr (pa_cons (pv 0) (pa_cons (pv 3) (pa_cons (pv 1) pa_nil)))))) (pw_or1 (pt_not (pt_val (pc (cal_w_rows_right T) hr (pa_cons (pv 3) (pa_cons (pv 4) (pa_cons (pv 1) pa_nil)))))))))
        (pss_one (ps_ret pe_bl))
        (pss_nil))
      (pss_one (ps_ret (pc (cal_w_changed_right T) hr (pa_cons (pv 0) (pa_cons (pv 3) (pa_cons (pv 4) (pa_cons (pv 1) pa_nil)))))))))))))))))))), ?_⟩
  obtain ⟨hx, k⟩ := h
  have big : 100000 ≤ sizeLine := by decide
  repeat walk_at "ru"
  refine ⟨_, _, rfl, _, hx, rfl, by omega, by omega, fun n0 H1 n1 n2 e1 => ?_⟩
  obtain ⟨n, rfl⟩ : ∃ g : Nat, n0 = (g : Int) := ⟨n0.toNat, by omega⟩
  repeat walk_at "ru"
  refine ⟨_, _, rfl, _, Reel.up e1 hx, rfl, by omega, by omega, fun m0 H2 m1 m2 e2 => ?_⟩
  obtain ⟨m, rfl⟩ : ∃ g : Nat, m0 = (g : Int) := ⟨m0.toNat, by omega⟩
  have e02 := e1.trans e2
  repeat walk_at "ru"
  refine ⟨_, _, _, rfl, m, n, Reel.up e02 hx, rfl, rfl, by omega, by omega, fun v3 H3 rs e3 hok hv3 => ?_⟩
  have e03 := e02.trans e3
  repeat walk_at "ru"
  refine ⟨_, _, rfl, rs, m, n, hv3, hok, by omega, by omega, .inl rfl, fun v4 H4 e4 hv4 tok => ?_⟩
  have e04 := e03.trans e4
  repeat walk_at "ru"
  refine lcL (Up.up e4 hv3) fun J W hz => lcK_pair (S := RS) W hz (fun r => r.1) (fun v5 H5 e5 hv5 => ?_) (fun a G x y ham e1 hx1 hy1 Kt hk => ?_)
  rotate_right
  · obtain rfl : x = V.str a.1 := hx1
    repeat walk_at "ru"
    exact hk _ _ (Same.refl _) rfl
  repeat walk_at "ru"
  refine rd_srtS (.inl hv5) fun v6 H6 out e6 hp hs hv6 => ?_
  have hout : out = (srtC (rowsC rs)).map (·.1) := by
    rw [srtC_names, rowsC_names]
    exact srtS_of hp hs
  subst hout
  have e06 := (e04.trans e5).trans e6
  have hrd := hok.rd (show m ≤ 12 by omega)
  have hQ0 : ∀ c ∈ (tabOf rs n).cs, QsOk c.2 := fun c hc => by
    obtain ⟨r, hr, rfl⟩ := rows_mem hc
    exact qs_ok (hok.ok r hr)
  have ht6 : TabR K H6 v4 (tabOf rs n) := Up.up (e5.trans e6) hv4
  have tok : TOk (tabOf rs n) := tok
  have hr6 := Up.up ((e4.trans e5).trans e6) hv3
  have hx6 := Reel.up e06 hx
  have hcl : (srtC (rowsC rs)).length ≤ 12 := tok.cs.few
  repeat walk_at "ru"
  refine ⟨by show 2 ≤ sizeLine; decide, fun q hq => ?_⟩
  repeat walk_at "ru"
  refine gok_pair (.inl (.inl upd_same)) gok_name gok_name _ (Same.refl _) _ ?_
  have e7 : Same H6 (upd H6 q (.tup [v4, v6])) := Same.new hq
  generalize upd H6 q (.tup [v4, v6]) = H7 at e7 ⊢
  have e07 := e06.trans e7
  have ht7 := Up.up (R := TabR K) e7 ht6
  have hr7 := Up.up e7 hr6
  have hx7 := Reel.up e7 hx6
  have hv7 := Up.up (R := RL K RS) e7 hv6
  obtain ⟨a4, dx4, vs4, rfl, sl4⟩ := id ht7.own
  clear hv6 hx6 hr6 ht6 hv5 hv3 hv4 hx e7 hq hp hs
  repeat walk_at "ru"
  refine ⟨_, rfl, _, ht7, tok, hQ0, fun v8 H8 e8 h8 => ?_⟩
  repeat walk_at "ru"
  refine ⟨_, _, rfl, _, n, Up.up e8 hr7, hrd, rfl, fun v9 H9 e9 h9 => ?_⟩
  refine .inr (rd_neT (rn_lst et_sd) (Up.up e9 h8) h9 fun HA eA => ?_)
  have e7A := (e8.trans e9).trans eA
  clear h8 h9
  repeat walk_at "ru"
  refine ⟨a4, dx4, vs4, rfl, Slt.up e7A sl4, _, rfl, _, Up.up e7A ht7, tok, fun vB HB eB hB => ?_⟩
  have e7B := e7A.trans eB
  repeat walk_at "ru"
  refine rd_tupleL (Up.up e7B hv7) fun wC HC eC hwC => ?_
  refine .inl (rd_neX (nc_tup ei_str) (Up.up eC hB) hwC fun HD eD => ?_)
  rw [decide_eq_true (show (tabOf rs n).cs.map (·.1) = (srtC (rowsC rs)).map (·.1) from rfl)]
  have e7D := (e7B.trans eC).trans eD
  clear hB hwC
  repeat walk_at "ru"
  refine ⟨a4, dx4, vs4, rfl, Slt.up e7D sl4, _, rfl, _, Up.up e7D ht7, fun dE HE eE hE => ?_⟩
  have e7E := e7D.trans eE
  obtain ⟨kvs, hk, hkv⟩ := id hE
  repeat walk_at "ru"
  refine ⟨dE, kvs, rfl, hk, fun q1 hq1 => ?_⟩
  have hy1 : RL K RS (upd HE q1 (.lst (kvs.map fun kv => kV kv.1))) (.ref q1) ((tabOf rs n).cs.map (·.1)) := rl_dkeys (K := K) (cs := (tabOf rs n).cs) hkv (by show (srtC (rowsC rs)).length ≤ _; omega) hq1
  have e8 : Same HE (upd HE q1 (.lst (kvs.map fun kv => kV kv.1))) := Same.new hq1
  generalize upd HE q1 (.lst (kvs.map fun kv => kV kv.1)) = H8 at hy1 e8 ⊢
  have e78 := e7E.trans e8
  repeat walk_at "ru"
  refine .inl (rd_neX (nc_lst ei_str) hy1 (Up.up e78 hv7) fun H9 e9 => ?_)
  rw [decide_eq_true (show (tabOf rs n).cs.map (·.1) = (srtC (rowsC rs)).map (·.1) from rfl)]
  have e79 := e78.trans e9
  clear hkv hk hy1 hE
  repeat walk_at "ru"
  refine ⟨a4, dx4, vs4, rfl, Slt.up e79 sl4, _, rfl, _, Up.up e79 ht7, tok, fun d1 HA eA hA => ?_⟩
  have e7A := e79.trans eA
  have hA2 : DA RS HA d1 (((tabOf rs n).cs.map fun c => (c.1, c.2.kind)).map fun c => (.inr c.1, c.2)) := by
    rw [List.map_map]
    exact hA
  obtain ⟨kvs, hk, hkv⟩ := id hA2
  repeat walk_at "ru"
  refine ⟨d1, kvs, rfl, hk, fun q1 hq1 => ?_⟩
  have hy1 := rl_dkeys (K := K) hkv (by rw [List.length_map]; show (srtC (rowsC rs)).length ≤ _; omega) hq1
  rw [List.map_map] at hy1
  have e8 : Same HA (upd HA q1 (.lst (kvs.map fun kv => kV kv.1))) := Same.new hq1
  generalize upd HA q1 (.lst (kvs.map fun kv => kV kv.1)) = H8 at hy1 e8 ⊢
  have e78 := e7A.trans e8
  repeat walk_at "ru"
  refine .inl (rd_neX (nc_lst ei_str) hy1 (Up.up e78 hv7) fun H9 e9 => ?_)
  rw [decide_eq_true (show (tabOf rs n).cs.map ((·.1) ∘ fun c => (c.1, c.2.kind)) = (srtC (rowsC rs)).map (·.1) from rfl)]
  have e79 := e78.trans e9
  clear hkv hk hy1 hA2 hA
  clear e8 e9 e78 eA e7A e7E eE e7D
  have hv9 := Up.up (R := RL K RS) e79 hv7
  have hr9 := Up.up e79 hr7
  have nm8 : ∀ c ∈ srtC (rowsC rs), c.1.length ≤ 8 := fun c hc => (nameB_len (tok.cs.nm c hc)).2
  repeat walk_at "ru"
  refine lcL (rl_nmg hv9) fun J W hz => lcK_name (S := RS) (K := K) W hz wordOf (fun vA HA eA hvA => ?_) (fun c G x hcm eA hx Kt hk => ?_)
  rotate_right
  · obtain rfl : x = V.str c.1 := hx
    obtain ⟨r, hrm, rfl⟩ := rows_mem hcm
    have h8 : r.1.length ≤ 8 := nm8 _ hcm
    repeat walk_at "ru"
    refine ⟨r.1, " ", rfl, rfl, by show r.1.length + 1 ≤ _; omega, ?_⟩
    repeat walk_at "ru"
    refine ⟨_, _, rfl, rs, r, Up.up eA hr9, rfl, hrm, hrd.nd, fun v H' e hv => ?_⟩
    repeat walk_at "ru"
    refine lcr_kind hv ?_
    refine ⟨_, _, rfl, rfl, by rw [str_len, kind_len]; show r.1.length + 1 + 6 ≤ _; omega, ?_⟩
    exact hk _ _ e rfl
  rw [word_of] at hvA
  have e7A := e79.trans eA
  repeat walk_at "ru"
  have hnl := num_len tok.n
  have hnl : (Str.ofString (toString (n : Int)) : Str).length ≤ 3 := hnl
  have nlog : (n : Int).natAbs.log2 < 1920 := log_small (by omega)
  refine ⟨_, rfl, nlog, ?_⟩
  have l1 : ("table of " : Str).length = 9 := rfl
  have l2 : (" rows" : Str).length = 5 := rfl
  have l3 : (": " : Str).length = 2 := rfl
  refine ⟨_, _, rfl, rfl, by rw [l1]; show 9 + (Str.ofString (toString (n : Int)) : Str).length ≤ _; omega, ?_⟩
  repeat walk_at "ru"
  refine ⟨_, _, rfl, rfl, by rw [str_len, l1, l2]; show 9 + (Str.ofString (toString (n : Int)) : Str).length + 5 ≤ _; omega, ?_⟩
  repeat walk_at "ru"
  refine ⟨Nat.zero_le _, fun pB hpB => ?_⟩
  have eB : Same HA (upd HA pB (.lst [])) := Same.new hpB
  have hv9A := Up.up (R := RL K RS) eA hv9
  apply with_rest (H7 := H7)
  · intro rest
    refine .inl (.inl (rd_neX (b := []) (nc_lst ei_str) (Up.up eB hv9A) (RL.mk hpB .nil (Nat.zero_le _)) fun HC eC => ?_))
    have e7C := (e7A.trans eB).trans eC
    by_cases hcs : srtC (rowsC rs) = []
    · rw [decide_eq_true (by rw [hcs]; rfl)]
      repeat walk_at "ru"
      exact rest _ e7C
    · rw [decide_eq_false (fun z => hcs (List.map_eq_nil_iff.mp z))]
      have ht7C := Up.up (R := TabR K) e7C ht7
      repeat walk_at "ru"
      refine ⟨_, rfl, ht7C.own, _, rfl, _, ht7C, tok, fun HD eD => ?_⟩
      refine ⟨_, rfl, ?_⟩
      repeat walk_at "ru"
      refine ⟨_, _, rfl, rfl, by rw [str_len, str_len, l1, l2, l3]; show 9 + (Str.ofString (toString (n : Int)) : Str).length + 5 + 2 ≤ _; omega, ?_⟩
      refine rd_join (X := cxOf (CXW P w) P w K mg base n_w_right "_law_right" (defScope s_w_right) (gA "_law_right" K) cdv A outer s H E) ?_
      repeat walk_at "ru"
      refine ⟨⟨_, rfl⟩, ?_⟩
      repeat walk_at "ru"
      obtain ⟨qw, vsw, rfl, sqw, raw, _⟩ := Up.up (R := RL K RS) ((eB.trans eC).trans eD) hvA
      obtain rfl := RAll.of_strs raw
      have hsum : (((srtC (rowsC rs)).map colWord).map (·.length)).sum ≤ 12 * 15 := Nat.le_trans (sum_len (m := 15) fun y hy => by
        obtain ⟨c, hc, rfl⟩ := List.mem_map.mp hy
        exact word_len (nm8 c hc)) (Nat.mul_le_mul_right 15 (by rw [List.length_map]; exact hcl))
      have hm2 : ((srtC (rowsC rs)).map colWord).length * (", " : Str).length ≤ 24 := by
        rw [List.length_map, show (", " : Str).length = 2 from rfl]
        omega
      have hj : (Txt.join ", " ((srtC (rowsC rs)).map colWord)).length ≤ 204 := by
        have := join_len ", " ((srtC (rowsC rs)).map colWord)
        rw [← TL.join_eq] at this
        omega
      refine ⟨_, _, _, rfl, rfl, .inl sqw, by omega, ?_⟩
      refine ⟨_, _, rfl, rfl, by rw [str_len, str_len, str_len, l1, l2, l3]; show 9 + (Str.ofString (toString (n : Int)) : Str).length + 5 + 2 + _ ≤ _; omega, ?_⟩
      repeat walk_at "ru"
      rw [decide_eq_true (show tabStr (tabOf rs n) = _ from tab_str hcs)]
      repeat walk_at "ru"
      exact rest _ (e7C.trans eD)
  intro HB e7B
  have hvB := Up.up (R := RL K RS) e7B hv7
  have hcm2 : ∀ c ∈ srtC (rowsC rs), (c.1, c.2.kind) ∈ (srtC (rowsC rs)).map fun c => (c.1, c.2.kind) := fun c hc => List.mem_map.mpr ⟨c, hc, rfl⟩
  have hnd2 : (((srtC (rowsC rs)).map fun c => (c.1, c.2.kind)).map (·.1)).Nodup := by
    rw [List.map_map]
    exact tok.cs.nd
  refine lcL (rl_nmg hvB) fun J W hz => lcK_name (S := RS) (K := K) W hz (fun c => c.2.kind) (fun vC HC eC hvC => ?_) (fun c G x hcm eC hx Kt hk => ?_)
  rotate_right
  · obtain rfl : x = V.str c.1 := hx
    refine rd_dg ?_
    repeat walk_at "ru"
    have e7G := e7B.trans eC
    refine ⟨a4, dx4, vs4, rfl, Slt.up e7G sl4, _, rfl, _, Up.up e7G ht7, tok, fun d1 HD eD hD => ?_⟩
    have hD2 : DA RS HD d1 (((srtC (rowsC rs)).map fun c => (c.1, c.2.kind)).map fun c => (.inr c.1, c.2)) := by
      rw [List.map_map]
      exact hD
    repeat walk_at "ru"
    refine col_get (R := RS) (.inl hD2) hnd2 (hcm2 c hcm) fun v hv => ?_
    exact hk _ _ eD hv
  have e7C := e7B.trans eC
  repeat walk_at "ru"
  refine lcL (rl_nmg (Up.up eC hvB)) fun J W hz => lcK_name (S := RS) (K := K) W hz (fun c => c.2.kind) (fun vD HD eD hvD => ?_) (fun c G x hcm eD hx Kt hk => ?_)
  rotate_right
  · obtain rfl : x = V.str c.1 := hx
    obtain ⟨r, hrm, rfl⟩ := rows_mem hcm
    repeat walk_at "ru"
    refine ⟨_, _, rfl, rs, r, Up.up (e7C.trans eD) hr7, rfl, hrm, hrd.nd, fun v H' e hv => ?_⟩
    repeat walk_at "ru"
    refine lcr_kind hv ?_
    exact hk _ _ e rfl
  refine .inl (rd_neX (nc_lst ei_str) (Up.up eD hvC) hvD fun HE eE => ?_)
  rw [decide_eq_true rfl]
  have e7E := (e7C.trans eD).trans eE
  clear hvC hvD hvB hv9A eB hpB
  repeat walk_at "ru"
  have hvE := Up.up (R := RL K RS) e7E hv7
  refine lcL (rl_nmg hvE) fun J W hz => lcK_name (S := RB) (K := K) W hz (fun _ => true) (fun vF HF eF hvF => ?_) (fun c G x hcm eF hx Kt hk => ?_)
  rotate_right
  · obtain rfl : x = V.str c.1 := hx
    obtain ⟨r, hrm, rfl⟩ := rows_mem hcm
    refine rd_dg ?_
    repeat walk_at "ru"
    have e7G := e7E.trans eF
    refine ⟨a4, dx4, vs4, rfl, Slt.up e7G sl4, _, rfl, _, Up.up e7G ht7, fun d1 HD eD hD => ?_⟩
    repeat walk_at "ru"
    refine col_get (R := ColR K) (.inl hD) tok.cs.nd hcm fun v hv => ?_
    have e7H := e7G.trans eD
    repeat walk_at "ru"
    refine ⟨_, _, rfl, rs, r, Up.up e7H hr7, rfl, hrm, hrd.nd, fun w HI eI hw => ?_⟩
    repeat walk_at "ru"
    refine ⟨_, rfl, r.2, n, hw, hok.ok r hrm, by omega, fun z HJ eJ hz => ?_⟩
    have hvJ := Up.up (R := ColR K) (eI.trans eJ) hv
    exact col_eq3 hvJ hz fun H' e => hk _ _ ((eD.trans (eI.trans eJ)).trans e) rfl
  repeat walk_at "ru"
  refine lcL (Up.up eF hvE) fun J W hz => lcK_name (S := RB) (K := K) W hz (fun _ => true) (fun vG HG eG hvG => ?_) (fun c G x hcm eF hx Kt hk => ?_)
  rotate_right
  · repeat walk_at "ru"
    exact hk _ _ (Same.refl _) rfl
  refine .inl (rd_neX (nc_lst ei_bool) (Up.up eG hvF) hvG fun HH eH => ?_)
  rw [List.map_map, decide_eq_true (show (srtC (rowsC rs)).map (fun _ => true) = (srtC (rowsC rs)).map ((fun _ => true) ∘ fun x => x.1) from rfl)]
  have e7H := ((e7E.trans eF).trans eG).trans eH
  clear hvF hvG hvE
  repeat walk_at "ru"
  have hrH := Up.up e7H hr7
  obtain ⟨p3, xs3, rfl, sq3, ra3, hz3⟩ := id hrH
  refine ⟨p3, xs3, rfl, sq3, fun p5 hp5 => ?_⟩
  have eI : Same HH (upd HH p5 (.lst xs3.reverse)) := Same.new hp5
  have hrI : RwR K (upd HH p5 (.lst xs3.reverse)) (.ref p5) rs.reverse := RL.mk hp5 (RAll.rev ra3) (by rw [List.length_reverse]; exact hz3)
  generalize upd HH p5 (.lst xs3.reverse) = HI at eI hrI ⊢
  repeat walk_at "ru"
  refine ⟨_, _, rfl, rs.reverse, m, n, hrI, hok.rev, by omega, by omega, .inl rfl, fun vT HJ eJ hvT tk6 => ?_⟩
  rw [srt_rev hok.nm.nd] at hvT tk6
  have e7J := (e7H.trans eI).trans eJ
  have htJ := Up.up (R := TabR K) e7J ht7
  repeat walk_at "ru"
  refine ⟨hvT.own, .inl htJ.own, _, _, rfl, _, hvT, tk6, .inl ⟨_, htJ, tok, .inl rfl, fun HK eK => ⟨true, by simp [tabOf], ?_⟩⟩⟩
  have e7K := e7J.trans eK
  rw [show (true != true) = false from rfl]
  repeat walk_at "ru"
  clear hvT tk6 htJ hrI hrH sq3 ra3
  refine ⟨Nat.zero_le _, fun pL hpL => ?_⟩
  have eL : Same HK (upd HK pL (.lst [])) := Same.new hpL
  have hvK := Up.up (R := RL K RS) e7K hv7
  apply with_rest (H7 := H7)
  · intro rest
    refine .inl (.inl (rd_neX (b := []) (nc_lst ei_str) (Up.up eL hvK) (RL.mk hpL .nil (Nat.zero_le _)) fun HM eM => ?_))
    have e7M := (e7K.trans eL).trans eM
    by_cases hcs : srtC (rowsC rs) = []
    · rw [decide_eq_true (by rw [hcs]; rfl)]
      repeat walk_at "ru"
      exact rest _ e7M
    · rw [decide_eq_false (fun z => hcs (List.map_eq_nil_iff.mp z))]
      repeat walk_at "ru"
      have hrn : rowsC rs ≠ [] := fun z => hcs (List.length_eq_zero_iff.mp (by rw [srtC_perm.length_eq, z]; rfl))
      refine ⟨_, _, rfl, rs, m, n, Up.up e7M hr7, hok, by omega, by omega, .inr ⟨rfl, fun z => absurd z hrn⟩, fun vN HN eN hvN tkN => ?_⟩
      have e7N := e7M.trans eN
      have htN := Up.up (R := TabR K) e7N ht7
      repeat walk_at "ru"
      refine ⟨hvN.own, .inl htN.own, _, _, rfl, _, hvN, tkN, .inl ⟨_, htN, tok, .inl rfl, fun HO eO => ⟨true, by simp [tabOf], ?_⟩⟩⟩
      rw [show (true != true) = false from rfl]
      repeat walk_at "ru"
      exact rest _ (e7N.trans eO)
  clear hvK e7K eL hpL
  intro HL e7L
  repeat walk_at "ru"
  refine ⟨Nat.zero_le _, fun pM hpM => ?_⟩
  have eM : Same HL (upd HL pM (.lst [])) := Same.new hpM
  have hvL := Up.up (R := RL K RS) e7L hv7
  apply with_rest (H7 := H7)
  · intro rest
    refine .inl (.inl (rd_neX (b := []) (nc_lst ei_str) (Up.up eM hvL) (RL.mk hpM .nil (Nat.zero_le _)) fun HN eN => ?_))
    have e7N := (e7L.trans eM).trans eN
    by_cases hcs : srtC (rowsC rs) = []
    · rw [decide_eq_true (by rw [hcs]; rfl)]
      repeat walk_at "ru"
      exact rest _ e7N
    · rw [decide_eq_false (fun z => hcs (List.map_eq_nil_iff.mp z))]
      repeat walk_at "ru"
      have htN := Up.up (R := TabR K) e7N ht7
      refine ⟨htN.own, ?_⟩
      repeat walk_at "ru"
      refine rd_slLFrom (Up.up e7N hv7) 1 fun vO HO eO hvO => ?_
      repeat walk_at "ru"
      refine rd_tupleL hvO fun vP HP eP hvP => ?_
      have e7P := (e7N.trans eO).trans eP
      repeat walk_at "ru"
      refine ⟨_, _, rfl, _, (srtC (rowsC rs)).drop 1, Up.up e7P ht7, tok, by rw [List.map_drop]; exact hvP, fun c hc => List.mem_of_mem_drop hc, by rw [List.map_drop]; exact tok.cs.nd.sublist (List.drop_sublist _ _), fun vQ HQ eQ hvQ tkQ => ?_⟩
      have e7Q := e7P.trans eQ
      have htQ := Up.up (R := TabR K) e7Q ht7
      repeat walk_at "ru"
      have hlen : (tabOf rs n).cs.length ≠ (srtC ((srtC (rowsC rs)).drop 1)).length := by
        rw [srtC_perm.length_eq, List.length_drop]
        show (srtC (rowsC rs)).length ≠ _
        have : (srtC (rowsC rs)).length ≠ 0 := fun z => hcs (List.length_eq_zero_iff.mp z)
        omega
      refine ⟨htQ.own, .inl hvQ.own, _, _, rfl, _, htQ, tok, .inl ⟨_, hvQ, tkQ, .inr hlen, fun HR eR => ⟨false, by rw [decide_eq_false fun z => hlen (congrArg List.length z.1)], ?_⟩⟩⟩
      rw [show (false != false) = false from rfl]
      repeat walk_at "ru"
      exact rest _ (e7Q.trans eR)
  clear hvL eM hpM
  intro HM e7M
  repeat walk_at "ru"
  have htM := Up.up (R := TabR K) e7M ht7
  have hrM := Up.up e7M hr7
  refine ⟨htM.own, .inr (.inr hrM.at3), _, _, rfl, _, htM, tok, .inr ⟨⟨_, HasTy.rl hrM, T.K_list_Table⟩, false, rfl, ?_⟩⟩
  repeat walk_at "ru"
  refine ⟨htM.own, .inr (.inr (.inl ⟨_, rfl⟩)), _, _, rfl, _, htM, tok, .inr ⟨⟨_, HasTy.int, T.K_int_Table⟩, false, rfl, ?_⟩⟩
  rw [show (false != false) = false from rfl]
  repeat walk_at "ru"
  refine ⟨by show 1 ≤ sizeLine; decide, fun pN hpN => ?_⟩
  have eN : Same HM (upd HM pN (.tup [.str "a"])) := Same.new hpN
  have sN : SqT K (upd HM pN (.tup [.str "a"])) pN [.str "a"] := .inl (.inl upd_same)
  generalize upd HM pN (.tup [.str "a"]) = HN at eN sN ⊢
  have e7N := e7M.trans eN
  repeat walk_at "ru"
  refine ⟨by show 7 ≤ sizeLine; decide, fun pO hpO => ?_⟩
  have eO : Same HN (upd HN pO (.lst [.str "a", .str "b", .str "q", .str "", .int 1, .non, .ref pN])) := Same.new hpO
  have hlO : RL K (RN K) (upd HN pO (.lst [.str "a", .str "b", .str "q", .str "", .int 1, .non, .ref pN])) (.ref pO) [some "a", some "b", some "q", some "", none, none, none] := RL.mk hpO (.cons ⟨rfl, by decide⟩ (.cons ⟨rfl, by decide⟩ (.cons ⟨rfl, by decide⟩ (.cons ⟨rfl, by decide⟩ (.cons ⟨_, HasTy.int, by rfl⟩ (.cons ⟨_, HasTy.none, by rfl⟩ (.cons ⟨_, HasTy.sqT sN, by rfl⟩ .nil))))))) (by show 7 ≤ sizeLine; decide)
  generalize upd HN pO (.lst [.str "a", .str "b", .str "q", .str "", .int 1, .non, .ref pN]) = HO at eO hlO ⊢
  have e7O := e7N.trans eO
  refine lcL hlO fun J W hz => lcK_name (S := RB) (K := K) W hz (oR fun z => decide (z ∈ (tabOf rs n).cs.map (·.1))) (fun vP HP eP hvP => ?_) (fun o G x hom eP hx Kt hk => ?_)
  rotate_right
  · repeat walk_at "ru"
    have htG := Up.up (R := TabR K) (e7O.trans eP) ht7
    exact ⟨htG.own, _, _, rfl, _, o, htG, hx, tok, fun H' e => ⟨_, rfl, by rw [Bool.bne_false]; exact hk _ _ e rfl⟩⟩
  have e7P := e7O.trans eP
  repeat walk_at "ru"
  have hvP2 := Up.up (R := RL K RS) e7P hv7
  refine rd_inRL hvP2 ?_
  repeat walk_at "ru"
  refine rd_inRL hvP2 ?_
  repeat walk_at "ru"
  refine ⟨by show 2 ≤ sizeLine; decide, fun pQ hpQ => ?_⟩
  have hlQ : RL K RB (upd HP pQ (.lst [.bl (decide (("a" : Str) ∈ (srtC (rowsC rs)).map (·.1))), .bl (decide (("b" : Str) ∈ (srtC (rowsC rs)).map (·.1)))])) (.ref pQ) [decide (("a" : Str) ∈ (srtC (rowsC rs)).map (·.1)), decide (("b" : Str) ∈ (srtC (rowsC rs)).map (·.1))] := RL.mk hpQ (.cons rfl (.cons rfl .nil)) (by show 2 ≤ sizeLine; decide)
  have eQ : Same HP (upd HP pQ (.lst [.bl (decide (("a" : Str) ∈ (srtC (rowsC rs)).map (·.1))), .bl (decide (("b" : Str) ∈ (srtC (rowsC rs)).map (·.1)))])) := Same.new hpQ
  generalize upd HP pQ (.lst [.bl (decide (("a" : Str) ∈ (srtC (rowsC rs)).map (·.1))), .bl (decide (("b" : Str) ∈ (srtC (rowsC rs)).map (·.1)))]) = HQ at hlQ eQ ⊢
  have e7Q := e7P.trans eQ
  repeat walk_at "ru"
  refine ⟨by show 1 ≤ sizeLine; decide, fun pR hpR => ?_⟩
  have eR : Same HQ (upd HQ pR (.lst [.bl false])) := Same.new hpR
  have hR1 : upd HQ pR (.lst [.bl false]) pR = some (.lst [.bl false]) := upd_same
  generalize upd HQ pR (.lst [.bl false]) = HR at eR hR1 ⊢
  repeat walk_at "ru"
  refine rd_rep (n := 5) hR1 (by omega) fun pS HS eS hS => ?_
  have hlS : RL K RB HS (.ref pS) (List.replicate 5 false) := RL.at hS (.cons rfl (.cons rfl (.cons rfl (.cons rfl (.cons rfl .nil))))) (by show 5 ≤ sizeLine; decide)
  have eQS := eR.trans eS
  refine rd_catL (Up.up eQS hlQ) hlS (by show 2 + 5 ≤ sizeLine; decide) fun vT HT eT hvT => ?_
  have ePT := (eQ.trans eQS).trans eT
  refine .inl (rd_neX (nc_lst ei_bool) (Up.up ePT hvP) hvT fun HU eU => ?_)
  have e7U := (e7P.trans ePT).trans eU
  rw [decide_eq_true (in_names tok hok)]
  repeat walk_at "ru"
  refine ⟨_, _, _, rfl, rs, m, n, Reel.up e7U hx7, Up.up e7U hr7, hok, by omega, rfl, by omega, fun HV eV => ⟨_, rfl, ?_⟩⟩
  have e7V := e7U.trans eV
  repeat walk_at "ru"
  refine ⟨_, _, _, rfl, rs, n, Up.up e7V hr7, hrd, Up.up (R := TabR K) e7V ht7, tok, rfl, by omega, fun HW eW => ?_⟩
  have e7W := e7V.trans eW
  repeat walk_at "ru"
  exact ⟨_, _, _, _, rfl, rs, m, n, Reel.up e7W hx7, Up.up e7W hr7, hok, by omega, Up.up (R := TabR K) e7W ht7, tok, rfl, by omega, fun HX eX => k _ ((e07.trans e7W).trans eX)⟩
))
theorem ctor_Table (T : Tx P K mg) : Ctor P w K mg base 4 "Table" (fun vs H Q E => sp_Table K (vs ++ [.non]) H Q E) := @NI.run _ (by exact NI.carry : NI.Carry (by
  obtain ⟨fd, F⟩ := T.D_Table___init__
  exact ctorD_of (n := 1) T.G_Table T.C_Table.make T.KW_Table___init__ F (fn_Table___init__ T F) rfl (fun _ _ _ _ _ _ us u l1 => match us, l1 with | [_, _], _ => ⟨_, _, _, _, _, _, rfl, rfl, rfl⟩) (fun vs H Q E h y dx h1 h2 h3 => by
    have st : Same H (upd (upd H dx (.own y)) y (.ins (gA "Table" K) dx [])) := fun c o e => by
      rw [upd_ne (ne_of_none e h1), upd_ne (ne_of_none e h2)]
      exact e
    obtain ⟨x, z, ev, d, cs, n, hx, hz, hd, hc, hn, k⟩ := h
    exact ⟨.ref y, x, z, by rw [ev], H, y, dx, rfl, h3, upd_same, by rw [upd_ne h3, upd_same], h1, h2, st, x, z, rfl, d, cs, n, hx, hz, hd, hc, hn, fun v H' cs' e hp hs hv => fun h => ⟨rfl, h ▸ k v H' cs' e hp hs hv⟩⟩)
))
theorem srtC_nil : srtC ([] : Cols) = [] := List.length_eq_zero_iff.mp (by rw [srtC_perm.length_eq]; rfl)
theorem csOk_nil {n : Nat} : CsOk [] n := ⟨(fun _ h => nomatch h), List.nodup_nil, Nat.zero_le _, fun _ h => nomatch h⟩
theorem tab_nil {K : PySem.W.Frag} {p : Addr} {z : V} {n : Nat} {H : Hp} {Q : VK} {E : XK} (hp : H p = some (.dK [])) (hz : RTo z [] n) (hn : n ≤ 200) (k : ∀ v H', Same H H' → TabR K H' v ⟨[], n⟩ → TOk ⟨[], n⟩ → Q v H') : sp_Table K [.ref p, z] H Q E := tab_made ⟨p, [], n, rfl, hz, ⟨[], hp, .nil⟩, csOk_nil, hn, fun v H' e hv tk => by
  rw [srtC_nil] at hv tk
  exact k v H' e hv tk⟩
theorem ud_put {α : Type} {S : Rl α} [Up S] [Ud S] {H : Hp} {d : Addr} {kvs : List (Key × V)} {o : HO} {v : V} {a : α} (h : H d = some (.dK kvs)) (r : S H v a) : S (upd H d o) v a := Up.up (hd_le (d := d) (H := upd H d o)) (by
  rw [hd_of]
  exact Ud.ud h r)
theorem same_disp {H Hb : Hp} {p : Addr} {x y : HO} (hp : H p = none) (e : Same (upd H p x) Hb) : Same H (upd Hb p y) := fun c o z => by
  have hne := ne_of_none z hp
  rw [upd_ne hne]
  exact e c o (by rw [upd_ne hne]; exact z)
def csE : Cols := [("a", .fac ["u", "v"] []), ("y", .num [])]
theorem csE_srt : srtC [("y", .num []), ("a", .fac ["u", "v"] [])] = csE := (srtC_of (List.Perm.swap _ _ _) (by decide +kernel) (by decide +kernel)).symm
theorem csE_ok : CsOk [("y", .num []), ("a", .fac ["u", "v"] [])] 0 := ⟨fun c hc => by
  rcases List.mem_cons.mp hc with rfl | hc
  · decide +kernel
  · obtain rfl := List.mem_singleton.mp hc
    decide +kernel, by decide +kernel, by decide, fun c hc => by
  rcases List.mem_cons.mp hc with rfl | hc
  · rfl
  · obtain rfl := List.mem_singleton.mp hc
    rfl⟩
theorem csE_str : tabStr ⟨csE, 0⟩ = "table of 0 rows: a factor, y number" := @NI.run _ (by exact NI.carry : NI.Carry (by decide +kernel
))
def lvW : List Str := (rgI 0 12).map fun i => ("l" : Str) ++ Str.ofString (toString i)
theorem lvW_ok : LvOk lvW := ⟨by decide +kernel, by decide +kernel, by decide +kernel, by decide +kernel⟩
theorem lvW_11 : lvW[11]? = some ("l11" : Str) := @NI.run _ (by exact NI.carry : NI.Carry (by decide +kernel
))
def csF : Cols := [("f", .fac lvW [some 11, none, some 0])]
theorem csF_ok : CsOk csF 3 := ⟨fun c hc => by
  obtain rfl := List.mem_singleton.mp hc
  decide +kernel, by decide +kernel, by decide, fun c hc => by
  obtain rfl := List.mem_singleton.mp hc
  rfl⟩
theorem csF_srt : srtC csF = csF := (srtC_of (List.Perm.refl _) (by decide +kernel) (by decide +kernel)).symm
def sp_w_written (K : PySem.W.Frag) : Sp := sp0 fun H Q _ => ∀ H', Same H H' → Q (.bl true) H'
abbrev n_w_written : List Str := ["_law_empty", "_law_wide", "_law_place"]
theorem sc_w_written : FnScope n_w_written [] (defScope s_w_written) := ⟨rfl, rfl, rfl, by decide +kernel, rfl, by decide +kernel, by decide +kernel⟩
theorem cal_w_written (T : Tx P K mg) : Cal P w K mg base 13 "_law_written" (sp_w_written K) := @NI.run _ (by exact NI.carry : NI.Carry (by
  refine cal_of (k := 12) T.G_w_written T.D_w_written sc_w_written (fun _ _ _ _ _ _ us hl => match us, hl with | [], _ => rfl) (fun vs H Q E h => ?_) (fun cdv A outer s H vs Q E hr h => ?_)
  · obtain ⟨rfl, _⟩ := h
    rfl
  obtain ⟨rfl, h⟩ := h
  refine ⟨_, pss_cons (ps_if (PW.pt (pw_or (pt_cmpR (op_eqN (cal_Table___eq__ T) T.O_Table___eq__ (hr.mono (by decide))) (pm (ctor_Table T) hr (pa_cons pe_dnewK pa_nil)) (pmKW (ctorN_Table T) hr takesE (pa_cons pe_dnewK pa_nil) (pk_cons pe_int pk_nil)) (nomark _)) (pw_or (pt_cmpR op_ne (pe_callB (call_lenN (cal_Table___len__ T) T.O_Table___len__ (hr.mono (by decide))) (by rfl) T.N_len (by decide +kernel) (pa_cons (pmKW (ctorN_Table T) hr takesE (pa_cons pe_dnewK pa_nil) (pk_cons pe_int pk_nil)) pa_nil)) pe_int (nomark _)) (pw_or1 (pt_cmpR op_ne (pp (prop_Table_total T) hr (pm (ctor_Table T) hr (pa_cons pe_dnewK pa_nil))) pe_int (nomark _))))))
        (pss_one (ps_ret pe_bl))
        (pss_nil))
      (pss_cons (ps_if (PW.pt (pw_or (pt_cmpR (op_or (neX P w K mg base hr) (neTX P w K mg base hr)) (pe_methN (cal_Table_worths T) T.O_Table_worths T.C_Table.cl hr takesE (pmKW (ctorN_Table T) hr takesE (pa_cons pe_dnewK pa_nil) (pk_cons pe_int pk_nil)) (pa_cons pe_int pa_nil)) pe_dnewK (nomark _)) (pw_or1 (pt_cmpR (op_neN (cal_Table___eq__ T) T.O_Table___eq__ T.Q_Table___ne__ T.C_Table.si.cm (hr.mono (by decide))) (pmKW (ctorN_Table T) hr takesE (pa_cons pe_dnewK pa_nil) (pk_cons pe_int pk_nil)) (pe_methN (cal_Table_shown T) T.O_Table_shown T.C_Table.cl hr takesE (pm (ctor_Table T) hr (pa_cons (pe_disp (pps_cons pe_str (pm (ctor_Numbers T) hr (pa_cons (pe_tup (pa_cons pe_non (pa_cons pe_non (pa_cons pe_non pa_nil)))) pa_nil)) pps_nil) (by rfl) (by rfl) (by simp) (by decide)) pa_nil)) (pa_cons (pe_tup pa_nil) pa_nil)) (nomark _)))))
        (pss_one (ps_ret pe_bl))
        (pss_nil))
      (pss_cons (ps_set (i := 0) sc_w_written.nd rfl (by first | exact Or.inl rfl | exact Or.inr rfl) (pm (ctor_Table T) hr (pa_cons (pe_disp (pps_cons pe_str (pm (ctor_Numbers T) hr (pa_cons (pe_tup pa_nil) pa_nil)) (pps_cons pe_str (pm (ctor_Factor T) hr (pa_cons (pe_tup (pa_cons pe_str (pa_cons pe_str pa_nil))) (pa_cons (pe_tup pa_nil) pa_nil))) pps_nil)) (by rfl) (by rfl) (by simp) (by decide)) pa_nil)))
      (pss_cons (ps_if (PW.pt (pw_or (pt_cmpR op_ne (pe_callTy (call_strN (cal_Table___str__ T) T.O_Table___str__ (hr.mono (by decide))) (by rfl) T.N_str (by decide +kernel) (pa_cons (pv 0) pa_nil)) pe_str (nomark _)) (pw_or1 (pt_cmpR (op_or (neX P w K mg base hr) (neTX P w K mg base hr)) (pp (prop_Table_kinds T) hr (pv 0)) (pe_disp (pps_cons pe_str pe_str (pps_cons pe_str pe_str pps_nil)) (by rfl) (by rfl) (by simp) (by decide)) (nomark _)))))
        (pss_one (ps_ret pe_bl))
        (pss_nil))
      (pss_cons (ps_set (i := 1) sc_w_written.nd rfl (by first | exact Or.inl rfl | exact Or.inr rfl) (pm (ctor_Factor T) hr (pa_cons (pe_callTy (kTuple K) (by rfl) T.N_tuple (by decide +kernel) (pa_cons (pe_lc (own := [("_law_place", 2)]) (g := gName 2) (tt := tYes) (by rfl) sc_w_written.nd (pi_range1 rfl T.N_range (pa_cons pe_int pa_nil)) (blkOk_by (own := [("_law_place", 2)]) (N := n_w_written) (by rfl)) (fun _ _ _ _ _ => pg_name (i := 2) sc_w_written.nd rfl (by first | exact Or.inl rfl | exact Or.inr rfl)) (fun _ _ _ _ _ => pts_nil) (fun _ _ _ _ _ => pe_hid (pe_op op_add_str pe_str (pe_callTy call_str_int (by rfl) T.N_str (by decide +kernel) (pa_cons (pv 2) pa_nil))))) pa_nil)) (pa_cons (pe_tup (pa_cons pe_int (pa_cons pe_non (pa_cons pe_int pa_nil)))) pa_nil))))
      (pss_one (ps_ret (pe_and (pe_cmpR op_eq (pe_ix (kIxT K) (pp (prop_Factor_levels T) hr (pv 1)) pe_int (fun _ _ => rfl)) pe_str (nomark _)) (pe_and (pe_cmpR (op_or (op_or (eqX P w K mg base hr) (eqTX P w K mg base hr)) (op_eqDL hr)) (pe_methN (cal_Table_worths T) T.O_Table_worths T.C_Table.cl hr takesE (pm (ctor_Table T) hr (pa_cons (pe_disp (pps_cons pe_str (pv 1) pps_nil) (by rfl) (by rfl) (by simp) (by decide)) pa_nil)) (pa_cons pe_int pa_nil)) (pe_disp (pps_cons pe_str pe_int pps_nil) (by rfl) (by rfl) (by simp) (by decide)) (nomark _)) (pe_one (pe_cmpR (op_ninN (cal_Table___contains__ T) T.O_Table___contains__ (hr.mono (by decide))) pe_str (pm (ctor_Table T) hr (pa_cons (pe_disp (pps_cons pe_str (pv 1) pps_nil) (by rfl) (by rfl) (by simp) (by decide)) pa_nil)) (by with_unfolding_all rfl))))))))))), ?_⟩
  have k := h
  have big : 100000 ≤ sizeLine := by decide
  repeat walk_at "ru"
  intro p1 hp1
  have e1 : Same H (upd H p1 (.dK [])) := Same.new hp1
  have d1 : upd H p1 (.dK []) p1 = some (.dK []) := upd_same
  generalize upd H p1 (.dK []) = H1 at e1 d1 ⊢
  repeat walk_at "ru"
  refine tab_nil (n := 0) d1 (.inr ⟨rfl, fun _ => rfl⟩) (by omega) fun v2 H2 e2 t2 o2 => ?_
  have e02 := e1.trans e2
  repeat walk_at "ru"
  intro p3 hp3
  have e3 : Same H2 (upd H2 p3 (.dK [])) := Same.new hp3
  have d3 : upd H2 p3 (.dK []) p3 = some (.dK []) := upd_same
  generalize upd H2 p3 (.dK []) = H3 at e3 d3 ⊢
  repeat walk_at "ru"
  refine ⟨rfl, rfl, tab_nil (n := 3) d3 (.inl rfl) (by omega) fun v4 H4 e4 t4 o4 => ?_⟩
  have t2' := Up.up (R := TabR K) (e3.trans e4) t2
  refine ⟨t2'.own, .inl t4.own, _, _, rfl, _, t2', o2, .inl ⟨_, t4, o4, .inl rfl, fun H5 e5 => ⟨false, by rw [decide_eq_false (fun z => by cases z.2)], ?_⟩⟩⟩
  rw [show (false != false) = false from rfl]
  have e05 := ((e02.trans e3).trans e4).trans e5
  repeat walk_at "ru"
  intro p6 hp6
  have e6 : Same H5 (upd H5 p6 (.dK [])) := Same.new hp6
  have d6 : upd H5 p6 (.dK []) p6 = some (.dK []) := upd_same
  generalize upd H5 p6 (.dK []) = H6 at e6 d6 ⊢
  repeat walk_at "ru"
  refine ⟨rfl, rfl, tab_nil (n := 200) d6 (.inl rfl) (by omega) fun v7 H7 e7 t7 o7 => ?_⟩
  have e07 := (e05.trans e6).trans e7
  repeat walk_at "ru"
  refine ⟨_, rfl, t7.own, _, rfl, _, t7, _, rfl, by decide, by decide, ?_⟩
  repeat walk_at "ru"
  rw [decide_eq_true (show (((⟨[], 200⟩ : TabD).n : Nat) : Int) = 200 from rfl)]
  repeat walk_at "ru"
  intro p8 hp8
  have e8 : Same H7 (upd H7 p8 (.dK [])) := Same.new hp8
  have d8 : upd H7 p8 (.dK []) p8 = some (.dK []) := upd_same
  generalize upd H7 p8 (.dK []) = H8 at e8 d8 ⊢
  repeat walk_at "ru"
  refine tab_nil (n := 0) d8 (.inr ⟨rfl, fun _ => rfl⟩) (by omega) fun v9 H9 e9 t9 o9 => ?_
  have e09 := (e07.trans e8).trans e9
  obtain ⟨a9, dx9, vs9, rfl, sl9⟩ := id t9.own
  repeat walk_at "ru"
  refine ⟨a9, dx9, vs9, rfl, sl9, _, rfl, _, t9, ?_⟩
  repeat walk_at "ru"
  rw [decide_eq_true (show (((⟨[], 0⟩ : TabD).n : Nat) : Int) = 0 from rfl)]
  repeat walk_at "ru"
  intro p10 hp10
  have e10 : Same H9 (upd H9 p10 (.dK [])) := Same.new hp10
  have d10 : upd H9 p10 (.dK []) p10 = some (.dK []) := upd_same
  generalize upd H9 p10 (.dK []) = H10 at e10 d10 ⊢
  repeat walk_at "ru"
  refine ⟨rfl, rfl, tab_nil (n := 3) d10 (.inl rfl) (by omega) fun v11 H11 e11 t11 o11 => ?_⟩
  have e011 := (e09.trans e10).trans e11
  clear t9 sl9 t7 t4 t2 t2' d1 d3 d6 d8 d10 hp1 hp3 hp6 hp8 hp10
  repeat walk_at "ru"
  refine ⟨t11.own, ?_⟩
  repeat walk_at "ru"
  refine ⟨_, _, rfl, _, 2, t11, o11, rfl, by decide, fun p12 H12 e12 hd12 => ?_⟩
  have e012 := e011.trans e12
  repeat walk_at "ru"
  intro p13 hp13
  have e13 : Same H12 (upd H12 p13 (.dK [])) := Same.new hp13
  have d13 : upd H12 p13 (.dK []) p13 = some (.dK []) := upd_same
  generalize upd H12 p13 (.dK []) = H13 at e13 d13 ⊢
  repeat walk_at "ru"
  obtain ⟨kv12, k12, r12⟩ := id hd12
  cases r12
  have rd12 : RD RI H13 (.ref p12) [] := ⟨p12, rfl, ⟨[], e13 _ _ k12, .nil⟩, List.nodup_nil⟩
  have rd13 : RD RI H13 (.ref p13) [] := ⟨p13, rfl, ⟨[], d13, .nil⟩, List.nodup_nil⟩
  refine .inr (rd_neT (rn_dict (et_ei ei_int)) rd12 rd13 fun H14 e14 => ?_)
  have e014 := (e012.trans e13).trans e14
  repeat walk_at "ru"
  intro p15 hp15
  have e15 : Same H14 (upd H14 p15 (.dK [])) := Same.new hp15
  have d15 : upd H14 p15 (.dK []) p15 = some (.dK []) := upd_same
  generalize upd H14 p15 (.dK []) = H15 at e15 d15 ⊢
  repeat walk_at "ru"
  refine ⟨rfl, rfl, tab_nil (n := 3) d15 (.inl rfl) (by omega) fun v16 H16 e16 t16 o16 => ?_⟩
  have e016 := (e014.trans e15).trans e16
  clear t11 hd12 k12 rd12 rd13 d15 d13 hp13 hp15
  repeat walk_at "ru"
  intro p17 hp17
  repeat walk_at "ru"
  refine ⟨by show 3 ≤ sizeLine; decide, fun p18 hp18 => ?_⟩
  have e17 : Same (upd H16 p17 (.dK [])) (upd (upd H16 p17 (.dK [])) p18 (.tup [.non, .non, .non])) := Same.new hp18
  have r18 : RT K (RQo K) (upd (upd H16 p17 (.dK [])) p18 (.tup [.non, .non, .non])) (.ref p18) [none, none, none] := ⟨p18, _, rfl, .inl (.inl upd_same), .cons rfl (.cons rfl (.cons rfl .nil)), by show 3 ≤ sizeLine; decide⟩
  generalize upd (upd H16 p17 (.dK [])) p18 (.tup [.non, .non, .non]) = H18 at e17 r18 ⊢
  repeat walk_at "ru"
  refine ⟨_, rfl, _, r18, by decide, fun v19 H19 e19 n19 => ?_⟩
  have e179 := e17.trans e19
  have d19 : H19 p17 = some (.dK []) := e179 _ _ upd_same
  refine ⟨d19, [(.inr "a", v19)], rfl, by show 1 ≤ 15; omega, ?_⟩
  have e1619 : Same H16 (upd H19 p17 (.dK (mergeK [] [(.inr "a", v19)]))) := same_disp hp17 e179
  have c20 : ColR K (upd H19 p17 (.dK (mergeK [] [(.inr "a", v19)]))) v19 (.num [none, none, none]) := ud_put d19 (show ColR K H19 v19 (.num [none, none, none]) from n19)
  have da20 : DA (ColR K) (upd H19 p17 (.dK (mergeK [] [(.inr "a", v19)]))) p17 (keyed [("a", .num [none, none, none])]) := ⟨_, upd_same, .cons ⟨rfl, c20⟩ .nil⟩
  generalize upd H19 p17 (.dK (mergeK [] [(.inr "a", v19)])) = H20 at e1619 da20 ⊢
  clear c20 d19 n19 r18 hp18
  repeat walk_at "ru"
  refine tab_made ⟨p17, [("a", .num [none, none, none])], 3, rfl, .inr ⟨rfl, fun h => nomatch h⟩, da20, ⟨fun c hc => by
    obtain rfl := List.mem_singleton.mp hc
    decide +kernel, by decide +kernel, by decide, fun c hc => by
    obtain rfl := List.mem_singleton.mp hc
    rfl⟩, by decide, fun v21 H21 e21 t21 o21 => ?_⟩
  repeat walk_at "ru"
  refine ⟨t21.own, ?_⟩
  repeat walk_at "ru"
  refine ⟨Nat.zero_le _, fun p22 hp22 => ?_⟩
  have e22 : Same H21 (upd H21 p22 (.tup [])) := Same.new hp22
  have r22 : RT K RS (upd H21 p22 (.tup [])) (.ref p22) (([] : Cols).map (·.1)) := ⟨p22, [], rfl, .inl (.inl upd_same), .nil, Nat.zero_le _⟩
  generalize upd H21 p22 (.tup []) = H22 at e22 r22 ⊢
  repeat walk_at "ru"
  refine ⟨_, _, rfl, _, [], Up.up e22 t21, o21, r22, (fun _ h => nomatch h), List.nodup_nil, fun v23 H23 e23 t23 o23 => ?_⟩
  rw [srtC_nil] at t23 o23
  have e1623 := ((e1619.trans e21).trans e22).trans e23
  have t16' := Up.up (R := TabR K) e1623 t16
  refine ⟨t16'.own, .inl t23.own, _, _, rfl, _, t16', o16, .inl ⟨_, t23, o23, .inl rfl, fun H24 e24 => ⟨true, by simp, ?_⟩⟩⟩
  rw [show (true != true) = false from rfl]
  have e024 := (e016.trans e1623).trans e24
  clear t16 t16' t21 r22 t23 da20 hp22 hp17
  repeat walk_at "ru"
  intro p25 hp25
  repeat walk_at "ru"
  refine ⟨Nat.zero_le _, fun p26 hp26 => ?_⟩
  have e26 : Same (upd H24 p25 (.dK [])) (upd (upd H24 p25 (.dK [])) p26 (.tup [])) := Same.new hp26
  have r26 : RT K (RQo K) (upd (upd H24 p25 (.dK [])) p26 (.tup [])) (.ref p26) [] := ⟨p26, [], rfl, .inl (.inl upd_same), .nil, Nat.zero_le _⟩
  generalize upd (upd H24 p25 (.dK [])) p26 (.tup []) = H26 at e26 r26 ⊢
  repeat walk_at "ru"
  refine ⟨_, rfl, _, r26, by decide, fun v27 H27 e27 n27 => ?_⟩
  repeat walk_at "ru"
  refine ⟨by show 2 ≤ sizeLine; decide, fun p28 hp28 => ?_⟩
  have e28 : Same H27 (upd H27 p28 (.tup [.str "u", .str "v"])) := Same.new hp28
  have r28 : RT K RS (upd H27 p28 (.tup [.str "u", .str "v"])) (.ref p28) (["u", "v"] : List Str) := ⟨p28, _, rfl, .inl (.inl upd_same), RAll.strs (ns := (["u", "v"] : List Str)), by show 2 ≤ sizeLine; decide⟩
  generalize upd H27 p28 (.tup [.str "u", .str "v"]) = H28 at e28 r28 ⊢
  repeat walk_at "ru"
  refine ⟨Nat.zero_le _, fun p29 hp29 => ?_⟩
  have e29 : Same H28 (upd H28 p29 (.tup [])) := Same.new hp29
  have r29 : RT K RIo (upd H28 p29 (.tup [])) (.ref p29) [] := ⟨p29, [], rfl, .inl (.inl upd_same), .nil, Nat.zero_le _⟩
  generalize upd H28 p29 (.tup []) = H29 at e29 r29 ⊢
  repeat walk_at "ru"
  refine ⟨_, _, rfl, _, _, Up.up e29 r28, r29, ⟨by decide, by decide, by decide +kernel, by decide +kernel⟩, ⟨by decide, fun n hn => nomatch hn⟩, fun v30 H30 e30 f30 => ?_⟩
  have e2530 := ((((e26.trans e27).trans e28).trans e29).trans e30)
  have d30 : H30 p25 = some (.dK []) := e2530 _ _ upd_same
  refine ⟨d30, [(.inr "y", v27), (.inr "a", v30)], rfl, by show 2 ≤ 15; omega, ?_⟩
  have hmk : mergeK [] [((.inr "y" : Key), v27), (.inr "a", v30)] = [(.inr "y", v27), (.inr "a", v30)] := merge_nil (by show [(Sum.inr "y" : Key), Sum.inr "a"].Nodup; decide +kernel)
  rw [hmk]
  have e2431 : Same H24 (upd H30 p25 (.dK [(.inr "y", v27), (.inr "a", v30)])) := same_disp hp25 e2530
  have c31 : ColR K (upd H30 p25 (.dK [(.inr "y", v27), (.inr "a", v30)])) v27 (.num []) := ud_put d30 (Up.up ((e28.trans e29).trans e30) (show ColR K H27 v27 (.num []) from n27))
  have f31 : ColR K (upd H30 p25 (.dK [(.inr "y", v27), (.inr "a", v30)])) v30 (.fac ["u", "v"] []) := ud_put d30 (show ColR K H30 v30 (.fac ["u", "v"] []) from f30)
  have da31 : DA (ColR K) (upd H30 p25 (.dK [(.inr "y", v27), (.inr "a", v30)])) p25 (keyed [("y", .num []), ("a", .fac ["u", "v"] [])]) := ⟨_, upd_same, .cons ⟨rfl, c31⟩ (.cons ⟨rfl, f31⟩ .nil)⟩
  generalize upd H30 p25 (.dK [(.inr "y", v27), (.inr "a", v30)]) = H31 at e2431 da31 ⊢
  clear c31 f31 d30 e2530 f30 r29 r28 n27 r26 hp26 hp28 hp29 hmk
  repeat walk_at "ru"
  refine tab_made ⟨p25, [("y", .num []), ("a", .fac ["u", "v"] [])], 0, rfl, .inr ⟨rfl, fun h => nomatch h⟩, da31, csE_ok, by decide, fun v32 H32 e32 t32 o32 => ?_⟩
  rw [csE_srt] at t32 o32
  have e032 := (e024.trans e2431).trans e32
  obtain ⟨a5, dx5, vs5, rfl, sl5⟩ := id t32.own
  repeat walk_at "ru"
  refine ⟨_, rfl, t32.own, _, rfl, _, t32, o32, fun H33 e33 => ⟨_, rfl, ?_⟩⟩
  repeat walk_at "ru"
  rw [decide_eq_true csE_str]
  have e033 := e032.trans e33
  repeat walk_at "ru"
  refine ⟨a5, dx5, vs5, rfl, Slt.up e33 sl5, _, rfl, _, Up.up e33 t32, o32, fun p34 H34 e34 hd34 => ?_⟩
  repeat walk_at "ru"
  intro p35 hp35
  repeat walk_at "ru"
  refine ⟨upd_same, [(.inr "a", .str "factor"), (.inr "y", .str "number")], rfl, by show 2 ≤ 15; omega, ?_⟩
  have hmk : mergeK [] [((.inr "a" : Key), V.str "factor"), (.inr "y", .str "number")] = [(.inr "a", .str "factor"), (.inr "y", .str "number")] := merge_nil (by show [(Sum.inr "a" : Key), Sum.inr "y"].Nodup; decide +kernel)
  rw [hmk]
  have e36 : Same H34 (upd (upd H34 p35 (.dK [])) p35 (.dK [(.inr "a", .str "factor"), (.inr "y", .str "number")])) := same_disp hp35 (Same.refl _)
  have rd36 : RD RS (upd (upd H34 p35 (.dK [])) p35 (.dK [(.inr "a", .str "factor"), (.inr "y", .str "number")])) (.ref p35) [(.inr "a", "factor"), (.inr "y", "number")] := ⟨p35, rfl, ⟨_, upd_same, .cons ⟨rfl, rfl⟩ (.cons ⟨rfl, rfl⟩ .nil)⟩, by decide +kernel⟩
  generalize upd (upd H34 p35 (.dK [])) p35 (.dK [(.inr "a", .str "factor"), (.inr "y", .str "number")]) = H36 at e36 rd36 ⊢
  have rd34 : RD RS H34 (.ref p34) [(.inr "a", "factor"), (.inr "y", "number")] := ⟨p34, rfl, hd34, by decide +kernel⟩
  refine .inr (rd_neT (rn_dict et_str) (Up.up e36 rd34) rd36 fun H37 e37 => ?_)
  have e037 := ((e033.trans e34).trans e36).trans e37
  clear rd34 rd36 hd34 hmk hp35 t32 sl5 da31 hp25
  repeat walk_at "ru"
  refine lcR1 (by omega) (fun J W hz => lcK_name (S := RS) (K := K) W hz (fun i : Int => ("l" : Str) ++ Str.ofString (toString i)) (fun v38 H38 e38 hv38 => ?_) (fun i G x him e6 hx2 Kt hk2 => ?_)) (by omega)
  rotate_right
  · obtain rfl : x = V.int i := hx2
    obtain ⟨i0, i1⟩ := rgI_mem.mp him
    obtain ⟨i, rfl⟩ : ∃ g : Nat, i = (g : Int) := ⟨i.toNat, by omega⟩
    have i2 : i < 12 := by
      have : (0 : Int) + ((Int.toNat 12 : Nat) : Int) = 12 := rfl
      omega
    have hl := num_len (n := i) (by omega)
    repeat walk_at "ru"
    refine ⟨_, rfl, log_small (by omega), ?_⟩
    refine ⟨_, _, rfl, rfl, by show 1 + (Str.ofString (toString (i : Int)) : Str).length ≤ _; omega, ?_⟩
    exact hk2 _ _ (Same.refl _) rfl
  repeat walk_at "ru"
  refine rd_tupleL hv38 fun v39 H39 e39 hv39 => ?_
  repeat walk_at "ru"
  refine ⟨by show 3 ≤ sizeLine; decide, fun p40 hp40 => ?_⟩
  have e40 : Same H39 (upd H39 p40 (.tup [.int 11, .non, .int 0])) := Same.new hp40
  have r40 : RT K RIo (upd H39 p40 (.tup [.int 11, .non, .int 0])) (.ref p40) [some 11, none, some 0] := ⟨p40, _, rfl, .inl (.inl upd_same), .cons ⟨rfl, fun z => nomatch z⟩ (.cons rfl (.cons ⟨rfl, fun z => nomatch z⟩ .nil)), by show 3 ≤ sizeLine; decide⟩
  generalize upd H39 p40 (.tup [.int 11, .non, .int 0]) = H40 at e40 r40 ⊢
  repeat walk_at "ru"
  refine ⟨_, _, rfl, lvW, _, Up.up e40 hv39, r40, lvW_ok, ⟨by decide, fun n hn => by
    rw [show lvW.length = 12 by decide +kernel]
    rcases List.mem_cons.mp hn with h | hn
    · cases h
      decide
    · rcases List.mem_cons.mp hn with h | hn
      · cases h
      · cases List.mem_singleton.mp hn
        decide⟩, fun v41 H41 e41 f41 => ?_⟩
  have e041 := (((e037.trans e38).trans e39).trans e40).trans e41
  obtain ⟨a6, dx6, vs6, rfl, sl6⟩ := id f41.own
  clear hv39 r40 hv38
  repeat walk_at "ru"
  refine ⟨a6, dx6, vs6, rfl, sl6, _, rfl, _, f41, fun v42 hv42 => ?_⟩
  repeat walk_at "ru"
  have hv43 : RT K RS H41 v42 lvW := hv42
  refine rd_ixT (n := 11) (a := ("l11" : Str)) hv43 lvW_11 fun w hw => ?_
  obtain rfl : w = V.str "l11" := hw
  repeat walk_at "ru"
  rw [decide_eq_true (rfl : ("l11" : Str) = "l11")]
  repeat walk_at "ru"
  have fF50 : ColR K H41 (.ref a6) (.fac lvW [some 11, none, some 0]) := f41
  intro p50 hp50
  refine ⟨_, rfl, ?_⟩
  refine ⟨upd_same, [(.inr "f", .ref a6)], rfl, by show 1 ≤ 15; omega, ?_⟩
  have e50 : Same H41 (upd (upd H41 p50 (.dK [])) p50 (.dK (mergeK [] [(.inr "f", .ref a6)]))) := same_disp hp50 (Same.refl _)
  have da50 : DA (ColR K) (upd (upd H41 p50 (.dK [])) p50 (.dK (mergeK [] [(.inr "f", .ref a6)]))) p50 (keyed csF) := ⟨_, upd_same, .cons ⟨rfl, Up.up (R := ColR K) e50 (fF50)⟩ .nil⟩
  generalize upd (upd H41 p50 (.dK [])) p50 (.dK (mergeK [] [(.inr "f", .ref a6)])) = H50 at e50 da50 ⊢
  repeat walk_at "ru"
  refine tab_made ⟨p50, csF, 3, rfl, .inr ⟨rfl, fun h => nomatch h⟩, da50, csF_ok, by decide, fun v51 H51 e51 t51 o51 => ?_⟩
  rw [csF_srt] at t51 o51
  repeat walk_at "ru"
  refine ⟨t51.own, ?_⟩
  repeat walk_at "ru"
  refine ⟨_, _, rfl, _, 0, t51, o51, rfl, by decide, fun p52 H52 e52 hd52 => ?_⟩
  repeat walk_at "ru"
  obtain ⟨kv52, k52, r52⟩ := id hd52
  have rd52 : RD RIo H52 (.ref p52) [(.inr "f", some 11)] := ⟨p52, rfl, ⟨kv52, k52, by
    cases r52 with
    | cons h t =>
      cases t
      exact .cons ⟨h.1, h.2⟩ .nil⟩, by decide +kernel⟩
  intro p53 hp53
  refine ⟨upd_same, [(.inr "f", .int 11)], rfl, by show 1 ≤ 15; omega, ?_⟩
  have e53 : Same H52 (upd (upd H52 p53 (.dK [])) p53 (.dK (mergeK [] [(.inr "f", .int 11)]))) := same_disp hp53 (Same.refl _)
  have rd53 : RD RIo (upd (upd H52 p53 (.dK [])) p53 (.dK (mergeK [] [(.inr "f", .int 11)]))) (.ref p53) [(.inr "f", some 11)] := ⟨p53, rfl, ⟨_, upd_same, .cons ⟨rfl, rfl, fun z => nomatch z⟩ .nil⟩, by decide +kernel⟩
  generalize upd (upd H52 p53 (.dK [])) p53 (.dK (mergeK [] [(.inr "f", .int 11)])) = H53 at e53 rd53 ⊢
  refine .inl (.inr (rd_eqT (rt_dict et_rio) (Up.up e53 rd52) rd53 fun H54 e54 => ?_))
  have e4154 := ((((e50.trans e51).trans e52).trans e53).trans e54)
  have fF57 := Up.up (R := ColR K) e4154 fF50
  repeat walk_at "ru"
  intro p57 hp57
  refine ⟨_, rfl, ?_⟩
  refine ⟨upd_same, [(.inr "f", .ref a6)], rfl, by show 1 ≤ 15; omega, ?_⟩
  have e57 : Same H54 (upd (upd H54 p57 (.dK [])) p57 (.dK (mergeK [] [(.inr "f", .ref a6)]))) := same_disp hp57 (Same.refl _)
  have da57 : DA (ColR K) (upd (upd H54 p57 (.dK [])) p57 (.dK (mergeK [] [(.inr "f", .ref a6)]))) p57 (keyed csF) := ⟨_, upd_same, .cons ⟨rfl, Up.up (R := ColR K) e57 (fF57)⟩ .nil⟩
  generalize upd (upd H54 p57 (.dK [])) p57 (.dK (mergeK [] [(.inr "f", .ref a6)])) = H57 at e57 da57 ⊢
  repeat walk_at "ru"
  refine tab_made ⟨p57, csF, 3, rfl, .inr ⟨rfl, fun h => nomatch h⟩, da57, csF_ok, by decide, fun v58 H58 e58 t58 o58 => ?_⟩
  rw [csF_srt] at t58 o58
  repeat walk_at "ru"
  refine ⟨t58.own, _, _, rfl, _, some "text", t58, ⟨rfl, by decide⟩, o58, fun H59 e59 => ⟨_, rfl, ?_⟩⟩
  rw [show (oR (fun z => decide (z ∈ csF.map (·.1))) (some "text") != true) = true by decide +kernel]
  exact k _ ((((e041.trans e4154).trans e57).trans e58).trans e59)
))
def sp_law (K : PySem.W.Frag) : Sp := sp1 fun x H Q _ => ∃ ns : List Int, RL K RI H x ns ∧ ns.length ≤ 1000 ∧ ∀ H', Same H H' → Q (.bl true) H'
abbrev n_law : List Str := ["_law_script", "_law_cases", "_law_at"]
theorem sc_law : FnScope n_law ["_law_script"] (defScope s_law) := ⟨rfl, rfl, rfl, by decide +kernel, rfl, by decide +kernel, by decide +kernel⟩
theorem ok_law (T : Tx P K mg) {fd : FuncData} (F : FunD K "law" "law" (defArgs s_law) (defBody s_law) (defScope s_law) [] [] (gA "law" K) fd) : FnOk P w K mg base (CXW P w) 16 (gA "law" K) fd ["_law_script"] (sp_law K) := @NI.run _ (by exact NI.carry : NI.Carry (by
  refine FunD.ok (k := 15) F sc_law (fun vs H Q E h => ?_) (fun cdv A outer s H vs Q E hr h => ?_)
  · obtain ⟨v0, rfl, _⟩ := h
    rfl
  obtain ⟨v0, rfl, h⟩ := h
  refine ⟨_, pss_cons (ps_set (i := 1) sc_law.nd rfl (by first | exact Or.inl rfl | exact Or.inr rfl) (pe_callB (bi_max2 rfl) (by rfl) T.N_max (by decide +kernel) (pa_cons pe_int (pa_cons (pe_callB (bi_min2 rfl) (by rfl) T.N_min (by decide +kernel) (pa_cons pe_int (pa_cons (pe_callB (kLen K) (by rfl) T.N_len (by decide +kernel) (pa_cons (pv 0) pa_nil)) pa_nil))) pa_nil))))
      (pss_cons (ps_for (passes_of rfl) rfl (pi_range1 rfl T.N_range (pa_cons (pv 1) pa_nil)) (pg_name (i := 2) sc_law.nd rfl (by first | exact Or.inl rfl | exact Or.inr rfl))
        (pss_one (ps_if (pt_not (pt_val (pc (cal_w_right T) hr (pa_cons (pc (cal_reel T) hr (pa_cons (pv 0) (pa_cons (pv 2) (pa_cons (pv 1) pa_nil)))) pa_nil))))
        (pss_one (ps_ret pe_bl))
        (pss_nil))))
      (pss_one (ps_ret (pc0 (cal_w_written T) hr)))), ?_⟩
  obtain ⟨ns, hns, hl, k⟩ := h
  have big1 : 1000 ≤ sizeLine := by decide
  repeat walk_at "ru"
  refine rd_lenL hns ?_
  repeat walk_at "ru"
  refine forRN (by omega) (by omega) (forN (fun i σ' H' => Same H H' ∧ ∃ x2, σ' = [some v0, some (.int (max 1 (min 4 (ns.length : Int)))), x2]) ⟨Same.refl _, none, rfl⟩ ?_ ?_)
  · rintro i σ' H1 hi ⟨e1, x2, rfl⟩
    repeat walk_at "ru"
    refine ⟨_, _, _, rfl, ns, _, _, Up.up (R := RL K RI) e1 hns, rfl, rfl, by omega, hl, fun v H2 e2 hv => ?_⟩
    repeat walk_at "ru"
    refine ⟨_, rfl, hv, fun H3 e3 => ⟨_, rfl, ?_⟩⟩
    repeat walk_at "ru"
    exact ⟨(e1.trans e2).trans e3, _, rfl⟩
  · rintro σ' H1 ⟨e1, x2, rfl⟩
    repeat walk_at "ru"
    exact ⟨rfl, fun H2 e2 => k _ (e1.trans e2)⟩
))
end
end LW
end
namespace LW
open PySem PySem.Spec PyProof.Rows L2 Wo
theorem ok_cx0 {P : Program} {w : World} {K : PySem.W.Frag} {mg : Str → Option Value} {base : Heap} {k : Nat} {f : Addr} {fd : FuncData} {ps : List Str} {sp : Sp} (F : FnOk P w K mg base (CXW P w) k f fd ps sp) (h : ∀ vs H Q E, sp vs H Q E → sp vs H Q E0) :
    FnOk P w K mg base L2.CX0 k f fd ps sp := ⟨F.len, fun A outer s H args us vs Q E hr he hb hv hs => codeAny_mono (F.run A outer s H args us vs Q E0 hr he hb hv (h vs H Q E hs)) fun r s' z => by
  cases r with
  | ok fl => cases fl <;> exact z
  | error e =>
    obtain ⟨a, B, H', cls, d, _, _, _, _, _, _, _, h⟩ := (show CXW P w outer H s E0 e s' from z)
    exact h.elim⟩
theorem law_facts {P : Program} {w : World} {K : PySem.W.Frag} {h : Heap} {mg : Str → Option Value} {f : Addr} (hfile : ((P.main.file : Str) == ("/claim/cut.py" : Str)) = true) (htop : (P.main.scope.names.lookup ("super" : Str)).isSome = false) (X : K.In h) (G : h.Ns mainGlobals mg) (hfa : mg ("law" : Str) = some (.ref f)) (c : SaysY fs ds es K) :
    ∃ fd : FuncData, (∀ (s : Shared) (v : Value), BindsTo s fd ⟨[v], []⟩ [("_law_script", v)]) ∧ ∀ base : Heap, FnOk P w K mg base L2.CX0 16 f fd ["_law_script"] (sp_law K) := @NI.run _ (by exact NI.carry : NI.Carry (by
  have T : Tx P K mg := tx_of hfile htop X G c
  have e := hfa.symm.trans T.G_law
  cases e
  obtain ⟨fd, F⟩ := T.D_law
  have b := FunD.bindsA (ps := ["_law_script"]) F fun _ _ _ _ _ _ us hl => match us, hl with | [_], _ => rfl
  exact ⟨fd, fun s v => b s [v] rfl, fun base => ok_cx0 (ok_law T F) fun vs H Q E h => h⟩
))
end LW
open PySem PySem.W PySem.Calls PyProof.Rows
theorem LW.fin : PySem.Challenge.rw_worthstead_k12_tables_told.Holds := @NI.run _ (by exact NI.carry : NI.Carry (by
  refine LW.ahead fun said => ?_
  refine HandSHeadRun.head_imp (r := OpenLaw.row PySem.Challenge.rw_worthstead_k12_tables_told) (q := LW.qv) (H := LW.hk) (ob := LW.ob) (M := 20000) (loose := LW.loose) (d := HandSHeadRun.topDef LW.R.prog 72) (kwd := []) LW.ob_eq LW.run
    (by kernel_rfl) (by kernel_rfl) (by kernel_rfl) (by rfl) (by first | assumption | decide +kernel) (by decide +kernel) ⟨rfl, rfl, rfl, rfl, rfl, by decide +kernel⟩ ?hw ?hc
  case hw => w_witness2
  case hc =>
    refine L2.walk_ofE (l := PySem.Challenge.rw_worthstead_k12_tables_told) (n := 63) (k := 16) (x := "_law_script") rfl (by decide) (by kernel_rfl) ⟨rfl, by decide, by decide⟩ ?F (CX := L2.CX0) (fun _ _ _ _ z => z)
    intro w mg fa h Y G hmg0
    obtain ⟨K, KX, c⟩ := Y
    have hmg : mg ("law" : PySem.Str) = some (.ref fa) := by
      have e : (HandSHeadRun.topDef LW.R.prog 72).name = ("law" : PySem.Str) := by kernel_rfl
      rw [← e]
      exact hmg0
    obtain ⟨fd, hb, hF⟩ := LW.law_facts (P := (PySem.Challenge.rw_worthstead_k12_tables_told).prog) (w := w) (by kernel_rfl) (by kernel_rfl) KX G hmg c.1
    exact ⟨K, fd, LW.sp_law K, KX, hb, fun H a ns hl _ hS => ⟨_, rfl, ns, ⟨a, _, rfl, hS, Wo.RAll.ints, by rw [List.length_map]; exact Nat.le_trans hl (by decide)⟩, Nat.le_trans hl (by decide), fun _ _ => rfl⟩, fun base _ _ => hF base⟩
))
theorem PySem.Challenge.cw_worthstead_k12_tables_told_holds : PySem.Challenge.rw_worthstead_k12_tables_told.Holds := by
  exact LW.fin
