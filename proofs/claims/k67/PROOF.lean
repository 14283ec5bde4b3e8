import PyProof.Rows.All
import Wide.All
import OpenK.AllK
import Wide.FinOn
import HandS.ForMost
import HandS.ForExc
import HandS.Defaults
import HandS.IsInst
import HandS.Flow
import HandS.Codes
import HandS.TryMany
import HandS.ExcInit
import HandS.Wide
import HandS.Walk
import HandS.Zip
import HandS.TupAny
import HandS.StrMore
import HandS.More
import HandS.WrittenGet
import HandS.ExcIs
import HandS.ExcField
import HandS.ExcValue
import HandS.Steps
import KE.KUnpackStar
import KE.GoesMore
import KE.GoesZip
import PyProof.StrOps2
import PyProof.ReprRoads
import PyProof.StrBlock2
import PyProof.Rows.StrMul
import HandS.RaiseMore
import HandS.CallLocal
import HandS.Ends
import HandS.HeadEnd
import HandS.HeadHook1
import HandS.HeadHook2
import HandS.HeadHook3
import HandS.DictComp
import HandS.DictTup
import HandS.Iter
import HandS.DeepEq
import HandS.OwnEq
import KE.IntTextLaws
import PySem.Challenge.RW_appendlease_k67_logs_written
import HandS.Words
import HandS.Head0
import HandS.Head1
import HandS.Head2
set_option Elab.async false
set_option linter.all false
set_option maxRecDepth 100000
set_option maxHeartbeats 4000000
/-! AL1: calls in a context that takes W (one rule for a def's body, a try's body, a comprehension). -/
namespace AL
open PySem PySem.Spec PyProof.Rows L2

/-- a wish with the slots, as a callee's wish -/
abbrev wE (W : WX) (σ : L2.St) : XK := fun cls d H => W cls d σ H
/-- a def of the module that may be called by its name -/
structure DefOk (P : Program) (w : World) (K : PySem.W.Frag) (mg : Str → Option Value) (base : Heap) (k : Nat) (x : Str) (dvs : List V) (sp : Sp) : Prop where
  ex : ∃ (f : Addr) (fd : FuncData) (ps : List Str) (ds : List Value), FnOk P w K mg base (L2.CX P w) k f fd ps sp ∧ mg x = some (.ref f) ∧ PySem.W.keepIn K (.ref f) = true ∧ Binds K fd ps ds ∧ Vals dvs ds
/-- a method of the class at C -/
structure MethOk (P : Program) (w : World) (K : PySem.W.Frag) (mg : Str → Option Value) (base : Heap) (k : Nat) (C : Addr) (m : Str) (dvs : List V) (sp : Sp) : Prop where
  ex : ∃ (f : Addr) (fd : FuncData) (ps : List Str) (ds : List Value), Cls K C ∧ Meth K C m f ∧ FnOk P w K mg base (L2.CX P w) k f fd ps sp ∧ Binds K fd ps ds ∧ Vals dvs ds
/-- a class that may be made by its name; sp: its __init__ -/
structure MakeOk (P : Program) (w : World) (K : PySem.W.Frag) (mg : Str → Option Value) (base : Heap) (k : Nat) (x : Str) (C : Addr) (dvs : List V) (sp : Sp) : Prop where
  ex : ∃ (f : Addr) (fd : FuncData) (ps : List Str) (ds : List Value), Mk K C f ∧ FnOk P w K mg base (L2.CX P w) k f fd ps sp ∧ mg x = some (.ref C) ∧ Binds K fd ps ds ∧ Vals dvs ds
def tCalW (sp : Sp) (dvs : List V) (W : WX) (t : TA) : TE := fun σ H Q => t σ H fun vs H1 => sp (vs ++ dvs) H1 Q (wE W σ)
def tMetW (C : Addr) (m : Str) (sp : Sp) (dvs : List V) (W : WX) (ta : TE) (t : TA) : TE := fun σ H Q => ta σ H fun x H1 => ∃ a dx fs, x = .ref a ∧ H1 a = some (.ins C dx fs) ∧ fs.lookup m = none ∧
  t σ H1 fun vs H2 => sp (x :: (vs ++ dvs)) H2 Q (wE W σ)
def tMakW (C : Addr) (sp : Sp) (dvs : List V) (W : WX) (t : TA) : TE := fun σ H Q => t σ H fun vs H1 => ∀ x dx, H1 x = none → H1 dx = none → dx ≠ x →
  sp (.ref x :: (vs ++ dvs)) (upd (upd H1 dx (.own x)) x (.ins C dx [])) (fun v H2 => v = .non ∧ Q (.ref x) H2) (wE W σ)
section
variable {X : Cx} {k j : Nat} {f C : Addr} {fd : FuncData} {ps : List Str} {sp : Sp} {dvs : List V} {ds : List Value} {W : WX} {x m : Str} {p pos apos : Pos} {e o : Expr} {es : List Expr} {ta : TE} {t : TA}
theorem run_w {pins : List (Addr × Obj)} {σ : L2.St} {H : Hp} {s : Shared} {Q : VK} {us : List Value} {vs : List V} (F : FnOk X.prog X.w X.K X.mg X.base (L2.CX X.prog X.w) k f fd ps sp) (hr : Room k X.A) (hb : Binds X.K fd ps ds) (hd : Vals dvs ds) (tk : Takes X W)
    (I : Inv X pins σ H s) (r : Vals vs us) (h : sp (vs ++ dvs) H Q (wE W σ)) : wpAny (model X.prog X.w) X.A (call (.ref f) us) (EP X pins σ Q) X.xe s := by
  have r2 : Vals (vs ++ dvs) (us ++ ds) := r.append hd
  have hl : (us ++ ds).length = ps.length := by rw [← r2.length]; exact F.len _ _ _ _ h
  refine wpAny_call (codeAny_mono (F.run X.A X.stack s H ⟨us, []⟩ (us ++ ds) (vs ++ dvs) Q (wE W σ) hr I.env0 (hb s us I.kIn hl) r2 h) fun r s' hq => ?_)
  cases r with
  | error e => exact passAt tk σ pins H s e s' I hq
  | ok fl =>
    cases fl with
    | ret u => exact I.after hq
    | next => exact False.elim hq
    | brk => exact False.elim hq
    | cont => exact False.elim hq
theorem pe_f (c : DefOk X.prog X.w X.K X.mg X.base k x dvs sp) (hr : Room j X.A) (tk : Takes X W) (ha : PA X (e :: es) t) (hk : k ≤ j := by decide) (hg : Gl X x := by rfl)
    (hdb : (x == ("__debug__" : Str)) = false := by decide) (he : starEach (e :: es) X.env = (false, eval e X.env) :: starEach es X.env := by rfl) (hpl : (backTo pos (starEach es X.env)).any (·.1) = false := by rfl) :
    PE X (.Call (.Name x p) (e :: es) [] pos) (tCalW sp dvs W t) := by
  obtain ⟨f, fd, ps, ds, F, hm, hkp, hb, hd⟩ := c.ex
  refine ⟨fun pins s σ H Q I h => ?_⟩
  refine wpAny_Call_Name_kw (ld_glob I hg hm ?_ hdb)
  refine PySem.W.callWith_K (h₀ := X.base) I.ok.mod.kin hkp (thn (ha.run pos pins s σ H _ I h) fun us s1 ⟨vs, H1, I1, r, q⟩ => ⟨I1.kIn, ?_⟩) he hpl
  exact run_w F (hr.mono hk) hb hd tk I1 r q
theorem pe_f0 (c : DefOk X.prog X.w X.K X.mg X.base k x dvs sp) (hr : Room j X.A) (tk : Takes X W) (hk : k ≤ j := by decide) (hg : Gl X x := by rfl)
    (hdb : (x == ("__debug__" : Str)) = false := by decide) : PE X (.Call (.Name x p) [] [] pos) (tCalW sp dvs W tNil) := by
  obtain ⟨f, fd, ps, ds, F, hm, hkp, hb, hd⟩ := c.ex
  refine ⟨fun pins s σ H Q I h => ?_⟩
  refine wpAny_Call_Name_kw (ld_glob I hg hm ?_ hdb)
  exact PySem.W.callWith_K0 I.kIn hkp (run_w (us := []) F (hr.mono hk) hb hd tk I .nil h)
/-- o.m(e, ..) -/
theorem pe_m {pl : Sem Bool} (c : MethOk X.prog X.w X.K X.mg X.base k C m dvs sp) (hr : Room j X.A) (tk : Takes X W) (he : PE X o ta) (ha : PA X (e :: es) t) (hk : k ≤ j := by decide)
    (hst : starEach (e :: es) X.env = (false, eval e X.env) :: starEach es X.env := by rfl) (hpl : (backTo pos (starEach es X.env)).any (·.1) = false := by rfl)
    (ht : eval (.Call (.Attribute o m apos) (e :: es) [] pos) X.env = (do
      let ov ← eval o X.env
      standAt apos.atName
      let (f, first) ← holding [ov] (getMethod ov m pl)
      callWith pos f first (backTo pos (starEach (e :: es) X.env)) (backToKw pos (keywordEach [] X.env))) := by rfl) :
    PE X (.Call (.Attribute o m apos) (e :: es) [] pos) (tMetW C m sp dvs W ta t) := by
  obtain ⟨f, fd, ps, ds, c, hm, F, hb, hd⟩ := c.ex
  refine ⟨fun pins s σ H Q I h => ?_⟩
  refine PySem.W.methodCall_KW (pl := pl) (thn (he.run pins s σ H _ I h) fun u s1 ⟨x, H1, I1, rx, a, dx, fs, ex, ea, l, q⟩ => ?_) ht
  subst ex
  obtain rfl : u = Value.ref a := rx
  refine getmeth_ok I1 ea c hm l ?_
  refine PySem.W.callWith_K (first := [.ref a]) (h₀ := X.base) I.ok.mod.kin hm.kp (thn (ha.run pos pins s1 σ H1 _ I1 q) fun us s2 ⟨vs, H2, I2, r, q2⟩ => ⟨I2.kIn, ?_⟩) hst hpl
  exact run_w (us := .ref a :: us) (vs := .ref a :: vs) F (hr.mono hk) hb hd tk I2 (.cons rfl r) q2
/-- o.m() -/
theorem pe_m0 {pl : Sem Bool} (c : MethOk X.prog X.w X.K X.mg X.base k C m dvs sp) (hr : Room j X.A) (tk : Takes X W) (he : PE X o ta) (hk : k ≤ j := by decide)
    (ht : eval (.Call (.Attribute o m apos) [] [] pos) X.env = (do
      let ov ← eval o X.env
      standAt apos.atName
      let (f, first) ← holding [ov] (getMethod ov m pl)
      callWith pos f first (backTo pos (starEach [] X.env)) (backToKw pos (keywordEach [] X.env))) := by rfl) :
    PE X (.Call (.Attribute o m apos) [] [] pos) (tMetW C m sp dvs W ta tNil) := by
  obtain ⟨f, fd, ps, ds, c, hm, F, hb, hd⟩ := c.ex
  refine ⟨fun pins s σ H Q I h => ?_⟩
  refine PySem.W.methodCall_KW (pl := pl) (thn (he.run pins s σ H _ I h) fun u s1 ⟨x, H1, I1, rx, a, dx, fs, ex, ea, l, q⟩ => ?_) ht
  subst ex
  obtain rfl : u = Value.ref a := rx
  refine getmeth_ok I1 ea c hm l ?_
  exact PySem.W.callWith_K0 (first := [.ref a]) I1.kIn hm.kp (run_w (us := [.ref a]) (vs := [.ref a]) F (hr.mono hk) hb hd tk I1 (.cons rfl .nil) q)
theorem run_mk {pins : List (Addr × Obj)} {σ : L2.St} {H : Hp} {s : Shared} {Q : VK} {us : List Value} {vs : List V} (M : Mk X.K C f) (F : FnOk X.prog X.w X.K X.mg X.base (L2.CX X.prog X.w) k f fd ps sp) (hr : Room (k + 1) X.A) (hb : Binds X.K fd ps ds) (hd : Vals dvs ds)
    (tk : Takes X W) (I : Inv X pins σ H s) (r : Vals vs us)
    (h : ∀ x dx, H x = none → H dx = none → dx ≠ x → sp (.ref x :: (vs ++ dvs)) (upd (upd H dx (.own x)) x (.ins C dx [])) (fun v H2 => v = .non ∧ Q (.ref x) H2) (wE W σ)) :
    wpAny (model X.prog X.w) X.A (call (.ref C) us) (EP X pins σ Q) X.xe s := by
  have hq := h (s.heap.objs.size + 1) s.heap.objs.size (I.hok.fresh (Nat.le_succ _)) (I.hok.fresh (Nat.le_refl _)) (Nat.ne_of_lt (Nat.lt_succ_self _))
  have I2 := Inv.made (C := C) I
  have r2 : Vals (V.ref (s.heap.objs.size + 1) :: (vs ++ dvs)) (Value.ref (s.heap.objs.size + 1) :: (us ++ ds)) := .cons rfl (r.append hd)
  have hl : (Value.ref (s.heap.objs.size + 1) :: us ++ ds).length = ps.length := by
    have e := r2.length
    rw [F.len _ _ _ _ hq] at e
    exact e.symm
  refine wpAny_call (make_map (f := f) I.kIn M.makes M.init (beq_iff_eq.mp M.fn) (codeAny_mono (F.run _ X.stack _ _ ⟨Value.ref (s.heap.objs.size + 1) :: us, []⟩ (Value.ref (s.heap.objs.size + 1) :: (us ++ ds)) _ _ (wE W σ) (hr.make C us [])
    (I2.env0.make C us []) (hb _ (Value.ref (s.heap.objs.size + 1) :: us) I2.kIn hl) r2 hq) fun r s' hq' => ?_))
  cases r with
  | error e => exact passAt tk σ pins _ _ e s' I2 hq'
  | ok fl =>
    cases fl with
    | ret u =>
      obtain ⟨v, H', I3, rv, ev, q3⟩ := I2.after hq'
      subst ev
      exact ⟨rv, ⟨V.ref (s.heap.objs.size + 1), H', I3, rfl, q3⟩⟩
    | next => exact False.elim hq'
    | brk => exact False.elim hq'
    | cont => exact False.elim hq'
theorem pe_k (c : MakeOk X.prog X.w X.K X.mg X.base k x C dvs sp) (hr : Room j X.A) (tk : Takes X W) (ha : PA X (e :: es) t) (hk : k + 1 ≤ j := by decide) (hg : Gl X x := by rfl)
    (hdb : (x == ("__debug__" : Str)) = false := by decide) (he : starEach (e :: es) X.env = (false, eval e X.env) :: starEach es X.env := by rfl) (hpl : (backTo pos (starEach es X.env)).any (·.1) = false := by rfl) :
    PE X (.Call (.Name x p) (e :: es) [] pos) (tMakW C sp dvs W t) := by
  obtain ⟨f, fd, ps, ds, M, F, hm, hb, hd⟩ := c.ex
  refine ⟨fun pins s σ H Q I h => ?_⟩
  refine wpAny_Call_Name_kw (ld_glob I hg hm ?_ hdb)
  refine PySem.W.callWith_K (h₀ := X.base) I.ok.mod.kin M.kp (thn (ha.run pos pins s σ H _ I h) fun us s1 ⟨vs, H1, I1, r, q⟩ => ⟨I1.kIn, ?_⟩) he hpl
  exact run_mk M F (hr.mono hk) hb hd tk I1 r q
theorem pe_k0 (c : MakeOk X.prog X.w X.K X.mg X.base k x C dvs sp) (hr : Room j X.A) (tk : Takes X W) (hk : k + 1 ≤ j := by decide) (hg : Gl X x := by rfl)
    (hdb : (x == ("__debug__" : Str)) = false := by decide) : PE X (.Call (.Name x p) [] [] pos) (tMakW C sp dvs W tNil) := by
  obtain ⟨f, fd, ps, ds, M, F, hm, hb, hd⟩ := c.ex
  refine ⟨fun pins s σ H Q I h => ?_⟩
  refine wpAny_Call_Name_kw (ld_glob I hg hm ?_ hdb)
  exact PySem.W.callWith_K0 I.kIn M.kp (run_mk (us := []) M F (hr.mono hk) hb hd tk I .nil h)
end
/-! ### defs by their bodies -/
section
variable {P : Program} {w : World} {K : PySem.W.Frag} {mg : Str → Option Value} {base : Heap} {x qual : Str} {params : Arguments} {body : List Stmt} {scope : Scope} {dvs : List V} {kws : List (Str × V)} {f C : Addr} {fd : FuncData}
/-- the context of a def's body takes what its promise says of errors -/
theorem takesD {N : List Str} {cd : Value} {A : Around} {outer : List Env} {s : Shared} {H : Hp} {E : XK} : Takes (cxOf (L2.CX P w) P w K mg base N qual scope f cd A outer s H E) (fun cls d _ H => E cls d H) := takes_of rfl rfl rfl rfl
/-- the context of a def's body, as the proofs bear it -/
abbrev bodyCx (P : Program) (w : World) (K : PySem.W.Frag) (mg : Str → Option Value) (base : Heap) (N : List Str) (qual : Str) (scope : Scope) (f : Addr) (cd : Value) (A : Around) (outer : List Env) (s : Shared) (H : Hp) (E : XK) : Cx :=
  cxOf (L2.CX P w) P w K mg base N qual scope f cd A outer s H E
end
end AL

set_option Elab.async false
set_option linter.all false
set_option maxRecDepth 100000
set_option maxHeartbeats 4000000
/-! AL2: short rules. -/
namespace AL
open PySem PySem.Spec PyProof.Rows L2
/-- the built-in names that the module leaves alone -/
structure BT (mg : Str → Option Value) : Prop where
  isinstance : mg "isinstance" = none
  all : mg "all" = none
  any : mg "any" = none
  len : mg "len" = none
  str : mg "str" = none
  int : mg "int" = none
  bool : mg "bool" = none
  tuple : mg "tuple" = none
  list : mg "list" = none
  dict : mg "dict" = none
  set : mg "set" = none
  range : mg "range" = none
  zip : mg "zip" = none
  enumerate : mg "enumerate" = none
  sum : mg "sum" = none
  max : mg "max" = none
  min : mg "min" = none
  sorted : mg "sorted" = none
  repr : mg "repr" = none
  ord : mg "ord" = none
section
variable {X : Cx} {e e2 : Expr} {es : List Expr} {te te2 : TE} {ta : TA} {p p2 pos : Pos}
theorem pe_len (T : BT X.mg) (ha : PE X e te) (hg : Gl X "len" := by rfl) (hs : starEach [e] X.env = (false, eval e X.env) :: starEach [] X.env := by rfl) : PE X (.Call (.Name "len" p) [e] [] pos) (tCB (fun xs H Q => ∃ x n, xs = [x] ∧ LenV X.K x H n ∧ Q (.int n) H) (tCons te tNil)) :=
  pe_callB call_len hg T.len PySem.boot_len (pa_cons ha pa_nil hs) (by decide) (by decide) hs
/-- isinstance(e, c) for a class as a value -/
def rIs (K : PySem.W.Frag) : List V → Hp → VK → Prop := fun xs H Q => ∃ x t T b, xs = [x, .ty T] ∧ TyX K H x (.type t) ∧ kitB t T = some b ∧ Q (.bl b) H
theorem call_is : CallR X (.builtin "isinstance") (rIs X.K) := by
  intro pins s σ H xs us Q I r h
  obtain ⟨x, t, T, b, e1, e2, e3, q⟩ := h
  exact call_isi pins s σ H xs us Q I r ⟨x, .ty T, .type t, .type T, b, e1, ClsV.ty T, e2, kit_ty e3, q⟩
theorem pe_is (B : BT X.mg) (ha : PE X e te) (ha2 : PE X e2 te2) (hg : Gl X "isinstance" := by rfl)
    (hs1 : starEach [e, e2] X.env = (false, eval e X.env) :: starEach [e2] X.env := by rfl) (hs2 : starEach [e2] X.env = (false, eval e2 X.env) :: starEach [] X.env := by rfl) (hpl : (backTo pos (starEach [e2] X.env)).any (·.1) = false := by rfl) :
    PE X (.Call (.Name "isinstance" p) [e, e2] [] pos) (tCB (rIs X.K) (tCons te (tCons te2 tNil))) :=
  pe_callB call_is hg B.isinstance PyProof.Rows.boot_isinstance (pa_cons ha (pa_cons ha2 pa_nil hs2) hs1) (by decide) (by decide) hs1 hpl
theorem ty_str (B : BT X.mg) (hg : Gl X "str" := by rfl) : PE X (.Name "str" p) (tC (.ty "str")) := pe_bltn (v := .ty "str") hg B.str PyProof.Rows.boot_str rfl
theorem ty_int (B : BT X.mg) (hg : Gl X "int" := by rfl) : PE X (.Name "int" p) (tC (.ty "int")) := pe_bltn (v := .ty "int") hg B.int PyProof.Rows.boot_int rfl
theorem ty_bool (B : BT X.mg) (hg : Gl X "bool" := by rfl) : PE X (.Name "bool" p) (tC (.ty "bool")) := pe_bltn (v := .ty "bool") hg B.bool PyProof.Rows.boot_bool rfl
theorem ty_tuple (B : BT X.mg) (hg : Gl X "tuple" := by rfl) : PE X (.Name "tuple" p) (tC (.ty "tuple")) := pe_bltn (v := .ty "tuple") hg B.tuple PyProof.Rows.boot_tuple rfl
theorem ty_list (B : BT X.mg) (hg : Gl X "list" := by rfl) : PE X (.Name "list" p) (tC (.ty "list")) := pe_bltn (v := .ty "list") hg B.list PyProof.Rows.boot_list rfl
theorem pe_all (B : BT X.mg) (ha : PE X e te) (hc : X.calm = true := by rfl) (hg : Gl X "all" := by rfl) (hs : starEach [e] X.env = (false, eval e X.env) :: starEach [] X.env := by rfl) : PE X (.Call (.Name "all" p) [e] [] pos) (tCB (rAll X.K) (tCons te tNil)) :=
  pe_callB (cr_all hc) hg B.all PyProof.Rows.boot_all (pa_cons ha pa_nil hs) (by decide) (by decide) hs
theorem pe_any (B : BT X.mg) (ha : PE X e te) (hc : X.calm = true := by rfl) (hg : Gl X "any" := by rfl) (hs : starEach [e] X.env = (false, eval e X.env) :: starEach [] X.env := by rfl) : PE X (.Call (.Name "any" p) [e] [] pos) (tCB (rAny X.K) (tCons te tNil)) :=
  pe_callB (cr_any hc) hg B.any PyProof.Rows.boot_any (pa_cons ha pa_nil hs) (by decide) (by decide) hs
end
end AL

set_option Elab.async false
set_option linter.all false
set_option maxRecDepth 100000
set_option maxHeartbeats 4000000
/-! AL3: readings on data and named objects: Cf (names' addresses, objects, heap), Rv, Tr; what an expression gives (Wx, Ev), what a statement does (Ws). -/
namespace AL
open PySem PySem.Spec PyProof.Rows L2
/-- a caught exception of the class cls, its dict at d -/
def exk (a : Addr) (cls : Value) (d : Option Addr) : HO := .ext fun h => ∃ (oe : Obj) (vs : Array Value), h.get? a = some oe ∧ Zc cls d oe ∧ oe.data = .fields vs
/-- what its dict holds -/
def XDict (H : Hp) : Option Addr → List (Str × V) → Prop
  | none, fs => fs = []
  | some dd, fs => H dd = some (.xd fs)
/-- a value as the proofs speak of it: data, the i-th named object, a plain value -/
inductive Lf where
  | d (x : PyData)
  | o (i : Nat)
  | raw (v : V)
/-- p: a tuple of such -/
inductive AV where
  | d (x : PyData)
  | o (i : Nat)
  | raw (v : V)
  | p (xs : List Lf)
def Lf.av : Lf → AV
  | .d x => .d x
  | .o i => .o i
  | .raw v => .raw v
/-- a named object -/
inductive AO where
  | dead
  | lst (xs : List AV)
  | dk (kvs : List (Key × AV))
  | dt (kvs : List (List Key × AV))
  | ins (C : Addr) (fs : List (Str × AV))
  | exc (cls : Value) (fs : List (Str × AV))
abbrev Sto := List AO
abbrev Sl := List (Option AV)
structure Cf where
  al : List Addr
  st : Sto
  hp : Hp
  hid : List Addr
def Cf.Alive (c : Cf) (a : Addr) : Prop := a ∈ c.hid ∨ ∃ (i : Nat) (o : AO), c.al[i]? = some a ∧ c.st[i]? = some o ∧ o ≠ AO.dead
mutual
/-- data that stands outside the named objects -/
inductive Dt (K : PySem.W.Frag) (M : Addr → Prop) (H : Hp) : V → PyData → Prop
  | non : Dt K M H .non .none
  | bl (b : Bool) : Dt K M H (.bl b) (.bool b)
  | int (i : Int) : Dt K M H (.int i) (.int i)
  | str (x : Str) : Dt K M H (.str x) (.str x)
  | lst {a : Addr} {xs : List V} {ds : List PyData} : ¬ M a → H a = some (.lst xs) → DtA K M H xs ds → Dt K M H (.ref a) (.list ds)
  | tup {a : Addr} {xs : List V} {ds : List PyData} : ¬ M a → H a = some (.tup xs) → DtA K M H xs ds → Dt K M H (.ref a) (.tuple ds)
inductive DtA (K : PySem.W.Frag) (M : Addr → Prop) (H : Hp) : List V → List PyData → Prop
  | nil : DtA K M H [] []
  | cons {v : V} {vs : List V} {d : PyData} {ds : List PyData} : Dt K M H v d → DtA K M H vs ds → DtA K M H (v :: vs) (d :: ds)
end
section
variable {K : PySem.W.Frag} {M M' : Addr → Prop} {H H' : Hp}
mutual
theorem Dt.dp : ∀ (d : PyData) (v : V), Dt K M H v d → Dp K H v d
  | .none, _, h => by cases h; exact .non
  | .bool b, _, h => by cases h; exact .bl b
  | .int i, _, h => by cases h; exact .int i
  | .str x, _, h => by cases h; exact .str x
  | .list ds, _, h => by
    cases h with
    | lst _ e a => exact .lst (Or.inl (Or.inl e)) (DtA.dp ds _ a)
  | .tuple ds, _, h => by
    cases h with
    | tup _ e a => exact .tup (Or.inl (Or.inl e)) (DtA.dp ds _ a)
  | .dict _, _, h => by cases h
theorem DtA.dp : ∀ (ds : List PyData) (vs : List V), DtA K M H vs ds → DpAll K H vs ds
  | [], _, h => by cases h; exact .nil
  | d :: ds, _, h => by
    cases h with
    | cons h1 h2 => exact .cons (Dt.dp d _ h1) (DtA.dp ds _ h2)
end
mutual
theorem Dt.mono (k : ∀ a o, ¬ M a → H a = some o → ¬ M' a ∧ H' a = some o) : ∀ (d : PyData) (v : V), Dt K M H v d → Dt K M' H' v d
  | .none, _, h => by cases h; exact .non
  | .bool b, _, h => by cases h; exact .bl b
  | .int i, _, h => by cases h; exact .int i
  | .str x, _, h => by cases h; exact .str x
  | .list ds, _, h => by
    cases h with
    | lst m e a => exact .lst (k _ _ m e).1 (k _ _ m e).2 (DtA.mono k ds _ a)
  | .tuple ds, _, h => by
    cases h with
    | tup m e a => exact .tup (k _ _ m e).1 (k _ _ m e).2 (DtA.mono k ds _ a)
  | .dict _, _, h => by cases h
theorem DtA.mono (k : ∀ a o, ¬ M a → H a = some o → ¬ M' a ∧ H' a = some o) : ∀ (ds : List PyData) (vs : List V), DtA K M H vs ds → DtA K M' H' vs ds
  | [], _, h => by cases h; exact .nil
  | d :: ds, _, h => by
    cases h with
    | cons h1 h2 => exact .cons (Dt.mono k d _ h1) (DtA.mono k ds _ h2)
end
theorem DtA.len : ∀ {vs : List V} {ds : List PyData}, DtA K M H vs ds → vs.length = ds.length
  | _, _, .nil => rfl
  | _, _, .cons _ h => congrArg (· + 1) h.len
theorem DtA.get : ∀ {vs : List V} {ds : List PyData} (i : Nat) (d : PyData), DtA K M H vs ds → ds[i]? = some d → ∃ v, vs[i]? = some v ∧ Dt K M H v d
  | _, _, i, d, .nil, e => by cases i <;> cases e
  | _, _, 0, d, .cons h _, e => ⟨_, rfl, by cases e; exact h⟩
  | _, _, i + 1, d, .cons _ h, e => h.get i d e
theorem DtA.getV : ∀ {vs : List V} {ds : List PyData} (i : Nat) (v : V), DtA K M H vs ds → vs[i]? = some v → ∃ d, ds[i]? = some d ∧ Dt K M H v d
  | _, _, i, d, .nil, e => by cases i <;> cases e
  | _, _, 0, d, .cons h _, e => ⟨_, rfl, by cases e; exact h⟩
  | _, _, i + 1, d, .cons _ h, e => h.getV i d e
theorem DtA.app : ∀ {vs ws : List V} {ds es : List PyData}, DtA K M H vs ds → DtA K M H ws es → DtA K M H (vs ++ ws) (ds ++ es)
  | _, _, _, _, .nil, h => h
  | _, _, _, _, .cons h h', g => .cons h (h'.app g)
theorem DtA.drop : ∀ {vs : List V} {ds : List PyData} (n : Nat), DtA K M H vs ds → DtA K M H (vs.drop n) (ds.drop n)
  | _, _, 0, h => h
  | _, _, n + 1, .nil => .nil
  | _, _, n + 1, .cons _ h => h.drop n
theorem DtA.take : ∀ {vs : List V} {ds : List PyData} (n : Nat), DtA K M H vs ds → DtA K M H (vs.take n) (ds.take n)
  | _, _, 0, h => .nil
  | _, _, n + 1, .nil => .nil
  | _, _, n + 1, .cons g h => .cons g (h.take n)
theorem DtA.strs : ∀ {vs : List V} {ys : List Str}, DtA K M H vs (ys.map PyData.str) → vs = ys.map V.str
  | _, [], .nil => rfl
  | _, y :: ys, .cons h g => by cases h; rw [g.strs]; rfl
theorem DtA.ofStrs : ∀ (ys : List Str), DtA K M H (ys.map V.str) (ys.map PyData.str)
  | [] => .nil
  | y :: ys => .cons (.str y) (DtA.ofStrs ys)
theorem DtA.bls : ∀ {vs : List V} {ys : List Bool}, DtA K M H vs (ys.map PyData.bool) → vs = ys.map V.bl
  | _, [], .nil => rfl
  | _, y :: ys, .cons h g => by cases h; rw [g.bls]; rfl
theorem DtA.ints : ∀ {vs : List V} {ys : List Int}, DtA K M H vs (ys.map PyData.int) → vs = ys.map V.int
  | _, [], .nil => rfl
  | _, y :: ys, .cons h g => by cases h; rw [g.ints]; rfl
end

/-- one state leads to another: data stays, names stay -/
structure Tr (c c' : Cf) : Prop where
  pre : ∃ l, c'.al = c.al ++ l
  keep : ∀ a o, ¬ c.Alive a → c.hp a = some o → ¬ c'.Alive a ∧ c'.hp a = some o
  dom : ∀ a, c'.hp a = none → c.hp a = none
  hid : c'.hid = c.hid
  keepH : ∀ a ∈ c.hid, c'.hp a = c.hp a
theorem Tr.refl (c : Cf) : Tr c c := ⟨⟨[], by simp⟩, fun _ _ h e => ⟨h, e⟩, fun _ h => h, rfl, fun _ _ => rfl⟩
theorem Tr.trans {a b c : Cf} (h : Tr a b) (g : Tr b c) : Tr a c := by
  obtain ⟨l, e⟩ := h.pre
  obtain ⟨l', e'⟩ := g.pre
  exact ⟨⟨l ++ l', by rw [e', e, List.append_assoc]⟩, fun x o n q => g.keep x o (h.keep x o n q).1 (h.keep x o n q).2, fun x q => h.dom x (g.dom x q), g.hid.trans h.hid, fun x m => (g.keepH x (by rw [h.hid]; exact m)).trans (h.keepH x m)⟩
theorem Tr.idx {c c' : Cf} (h : Tr c c') {i : Nat} {a : Addr} (e : c.al[i]? = some a) : c'.al[i]? = some a := by
  obtain ⟨l, q⟩ := h.pre
  rw [q, List.getElem?_append_left (List.getElem?_eq_some_iff.mp e).1]
  exact e
def RvL (K : PySem.W.Frag) (c : Cf) (v : V) : Lf → Prop
  | .d x => Dt K c.Alive c.hp v x
  | .o i => ∃ a, c.al[i]? = some a ∧ v = .ref a
  | .raw u => v = u
def Rv (K : PySem.W.Frag) (c : Cf) (v : V) : AV → Prop
  | .d x => Dt K c.Alive c.hp v x
  | .o i => ∃ a, c.al[i]? = some a ∧ v = .ref a
  | .raw u => v = u
  | .p xs => ∃ a us, v = .ref a ∧ ¬ c.Alive a ∧ c.hp a = some (.tup us) ∧ Paired (RvL K c) us xs
theorem rvL_rv {K : PySem.W.Frag} {c : Cf} {v : V} : ∀ {x : Lf}, RvL K c v x → Rv K c v x.av
  | .d _, r => r
  | .o _, r => r
  | .raw _, r => r
theorem paired_imp {α β : Type} {R S : α → β → Prop} (k : ∀ a b, R a b → S a b) : ∀ {l : List α} {m : List β}, Paired R l m → Paired S l m
  | _, _, .nil => .nil
  | _, _, .cons h t => .cons (k _ _ h) (paired_imp k t)
theorem Tr.rvL {K : PySem.W.Frag} {c c' : Cf} (h : Tr c c') {v : V} {x : Lf} (r : RvL K c v x) : RvL K c' v x := by
  cases x with
  | d x => exact Dt.mono h.keep x v r
  | o i =>
    obtain ⟨a, e, q⟩ := r
    exact ⟨a, h.idx e, q⟩
  | raw u => exact r
theorem Tr.rv {K : PySem.W.Frag} {c c' : Cf} (h : Tr c c') {v : V} {x : AV} (r : Rv K c v x) : Rv K c' v x := by
  cases x with
  | d x => exact Dt.mono h.keep x v r
  | o i =>
    obtain ⟨a, e, q⟩ := r
    exact ⟨a, h.idx e, q⟩
  | raw u => exact r
  | p xs =>
    obtain ⟨a, us, e, n, q, t⟩ := r
    exact ⟨a, us, e, (h.keep a _ n q).1, (h.keep a _ n q).2, paired_imp (fun _ _ r => h.rvL r) t⟩
abbrev Rvs (K : PySem.W.Frag) (c : Cf) : List V → List AV → Prop := Paired (Rv K c)
theorem Tr.rvs {K : PySem.W.Frag} {c c' : Cf} (h : Tr c c') : ∀ {vs : List V} {xs : List AV}, Rvs K c vs xs → Rvs K c' vs xs
  | _, _, .nil => .nil
  | _, _, .cons r rs => .cons (h.rv r) (h.rvs rs)
def Rf (K : PySem.W.Frag) (c : Cf) : List (Str × V) → List (Str × AV) → Prop := Paired fun p q => p.1 = q.1 ∧ Rv K c p.2 q.2
def Rk (K : PySem.W.Frag) (c : Cf) : List (Key × V) → List (Key × AV) → Prop := Paired fun p q => p.1 = q.1 ∧ Rv K c p.2 q.2
def Rkt (K : PySem.W.Frag) (c : Cf) : List (List Key × V) → List (List Key × AV) → Prop := Paired fun p q => p.1 = q.1 ∧ Rv K c p.2 q.2
def Ro (K : PySem.W.Frag) (c : Cf) (a : Addr) : AO → Prop
  | .dead => True
  | .lst xs => ∃ vs, c.hp a = some (.lst vs) ∧ Rvs K c vs xs
  | .dk kvs => ∃ ws, c.hp a = some (.dK ws) ∧ Rk K c ws kvs
  | .dt kvs => ∃ ws, c.hp a = some (.dT ws) ∧ Rkt K c ws kvs
  | .ins C fs => ∃ dx ws, c.hp a = some (.ins C dx ws) ∧ Rf K c ws fs
  | .exc cls fs => ∃ d ws, c.hp a = some (exk a cls d) ∧ (∀ dd, d = some dd → ¬ c.Alive dd) ∧ XDict c.hp d ws ∧ Rf K c ws fs
theorem xdict_keep {K : PySem.W.Frag} {c c' : Cf} (keep : ∀ a o, ¬ c.Alive a → c.hp a = some o → ¬ c'.Alive a ∧ c'.hp a = some o) : ∀ {d : Option Addr} {ws : List (Str × V)}, (∀ dd, d = some dd → ¬ c.Alive dd) → XDict c.hp d ws → (∀ dd, d = some dd → ¬ c'.Alive dd) ∧ XDict c'.hp d ws
  | none, _, _, e => ⟨(fun _ z => nomatch z), e⟩
  | some dd, _, n, e => ⟨fun d' z => by cases z; exact (keep dd _ (n dd rfl) e).1, (keep dd _ (n dd rfl) e).2⟩
theorem Ro.tr {K : PySem.W.Frag} {c c' : Cf} (h : Tr c c') {a : Addr} (e : c'.hp a = c.hp a) : ∀ {o : AO}, Ro K c a o → Ro K c' a o
  | .dead, _ => trivial
  | .lst xs, ⟨vs, p, q⟩ => ⟨vs, e.trans p, h.rvs q⟩
  | .dk kvs, ⟨vs, p, q⟩ => ⟨vs, e.trans p, paired_imp (fun _ _ r => ⟨r.1, h.rv r.2⟩) q⟩
  | .dt kvs, ⟨vs, p, q⟩ => ⟨vs, e.trans p, paired_imp (fun _ _ r => ⟨r.1, h.rv r.2⟩) q⟩
  | .ins C fs, ⟨dx, vs, p, q⟩ => ⟨dx, vs, e.trans p, paired_imp (fun _ _ r => ⟨r.1, h.rv r.2⟩) q⟩
  | .exc cls fs, ⟨d, vs, p, n, x, q⟩ => ⟨d, vs, e.trans p, (xdict_keep (K := K) h.keep n x).1, (xdict_keep (K := K) h.keep n x).2, paired_imp (fun _ _ r => ⟨r.1, h.rv r.2⟩) q⟩
structure SR (K : PySem.W.Frag) (c : Cf) : Prop where
  dj : ∀ a ∈ c.al, a ∉ c.hid
  hd : ∀ a ∈ c.hid, c.hp a ≠ none
  len : c.al.length = c.st.length
  nd : c.al.Nodup
  al : ∀ a ∈ c.al, c.hp a ≠ none
  ob : ∀ (i : Nat) (a : Addr) (o : AO), c.al[i]? = some a → c.st[i]? = some o → Ro K c a o
def SS (K : PySem.W.Frag) (c : Cf) (σ : L2.St) (sl : Sl) : Prop := σ.length = sl.length ∧ ∀ (i : Nat) (x : AV), sl[i]? = some (some x) → ∃ v, σ[i]? = some (some v) ∧ Rv K c v x
theorem Tr.ss {K : PySem.W.Frag} {c c' : Cf} {σ : L2.St} {sl : Sl} (h : Tr c c') (s : SS K c σ sl) : SS K c' σ sl :=
  ⟨s.1, fun i x e => let ⟨v, p, q⟩ := s.2 i x e; ⟨v, p, h.rv q⟩⟩
theorem SS.set {K : PySem.W.Frag} {c : Cf} {σ : L2.St} {sl : Sl} {i : Nat} {v : V} {x : AV} (s : SS K c σ sl) (r : Rv K c v x) : SS K c (σ.set i (some v)) (sl.set i (some x)) := by
  refine ⟨by rw [List.length_set, List.length_set]; exact s.1, fun j y e => ?_⟩
  by_cases h : i = j
  · subst h
    rw [List.getElem?_set_self' ] at e
    cases h1 : sl[i]? with
    | none => rw [h1] at e; cases e
    | some z =>
      rw [h1] at e
      have e : some x = some y := by simpa using e
      cases e
      have hl : i < σ.length := by rw [s.1]; exact (List.getElem?_eq_some_iff.mp h1).1
      exact ⟨v, by rw [List.getElem?_set_self hl], r⟩
  · rw [List.getElem?_set_ne h] at e ⊢
    exact s.2 j y e
/-- a slot forgotten -/
theorem SS.forget {K : PySem.W.Frag} {c : Cf} {σ : L2.St} {sl : Sl} {i : Nat} (s : SS K c σ sl) : SS K c (σ.set i none) (sl.set i none) := by
  refine ⟨by rw [List.length_set, List.length_set]; exact s.1, fun j y e => ?_⟩
  by_cases h : i = j
  · subst h
    rw [List.getElem?_set_self' ] at e
    cases h1 : sl[i]? with
    | none => rw [h1] at e; cases e
    | some z => rw [h1] at e; have e : (none : Option AV) = some y := by simpa using e
                cases e
  · rw [List.getElem?_set_ne h] at e ⊢
    exact s.2 j y e
/-! ### steps on the state -/
section
variable {K : PySem.W.Frag} {c : Cf}
theorem SR.lt (s : SR K c) {i : Nat} {a : Addr} (h : c.al[i]? = some a) : i < c.st.length := by
  rw [← s.len]; exact (List.getElem?_eq_some_iff.mp h).1
/-- a new thing that is no named object -/
def Cf.new (c : Cf) (p : Addr) (o : HO) : Cf := { c with hp := upd c.hp p o }
theorem tr_new {p : Addr} {o : HO} (s : SR K c) (h : c.hp p = none) : Tr c (c.new p o) ∧ SR K (c.new p o) ∧ ¬ (c.new p o).Alive p := by
  have t : Tr c (c.new p o) := ⟨⟨[], by simp [Cf.new]⟩, fun a u n e => ⟨n, by show upd c.hp p o a = _; rw [upd_ne (ne_of_none e h)]; exact e⟩, fun a e => by
    have e : upd c.hp p o a = none := e
    by_cases q : a = p
    · subst q; exact h
    · rw [upd_ne q] at e; exact e, rfl, fun a m => by
    show upd c.hp p o a = _
    rw [upd_ne]
    rintro rfl
    exact s.hd a m h⟩
  have hp : p ∉ c.al := fun m => s.al p m h
  refine ⟨t, ⟨s.dj, fun a m e => s.hd a m (t.dom a e), s.len, s.nd, fun a m e => s.al a m (t.dom a e), fun i a u e1 e2 => (s.ob i a u e1 e2).tr t ?_⟩, ?_⟩
  · show upd c.hp p o a = _
    rw [upd_ne]
    intro q
    subst q
    exact hp (List.mem_of_getElem? e1)
  · rintro (m | ⟨i, u, e1, _⟩)
    · exact s.hd p m h
    · exact hp (List.mem_of_getElem? e1)
/-- a new named object -/
def Cf.add (c : Cf) (p : Addr) (ho : HO) (o : AO) : Cf := ⟨c.al ++ [p], c.st ++ [o], upd c.hp p ho, c.hid⟩
theorem tr_add {p : Addr} {ho : HO} {o : AO} (s : SR K c) (h : c.hp p = none) : Tr c (c.add p ho o) := by
  have hp : p ∉ c.al := fun m => s.al p m h
  refine ⟨⟨[p], rfl⟩, fun a u n e => ⟨?_, by show upd c.hp p ho a = _; rw [upd_ne (ne_of_none e h)]; exact e⟩, fun a e => ?_, rfl, fun a m => ?_⟩
  · rintro (m | ⟨i, v, e1, e2, e3⟩)
    · exact n (Or.inl m)
    have e1 : (c.al ++ [p])[i]? = some a := e1
    have e2 : (c.st ++ [o])[i]? = some v := e2
    by_cases q : i < c.al.length
    · rw [List.getElem?_append_left q] at e1
      rw [List.getElem?_append_left (by rw [← s.len]; exact q)] at e2
      exact n (Or.inr ⟨i, v, e1, e2, e3⟩)
    · rw [List.getElem?_append_right (Nat.le_of_not_lt q)] at e1
      have : a = p := by
        cases hi : i - c.al.length with
        | zero => rw [hi] at e1; cases e1; rfl
        | succ k => rw [hi] at e1; cases e1
      subst this
      rw [h] at e; cases e
  · have e : upd c.hp p ho a = none := e
    by_cases q : a = p
    · subst q; exact h
    · rw [upd_ne q] at e; exact e
  · show upd c.hp p ho a = _
    rw [upd_ne]
    rintro rfl
    exact s.hd a m h
theorem sr_add {p : Addr} {ho : HO} {o : AO} (s : SR K c) (h : c.hp p = none) (r : Ro K (c.add p ho o) p o) : SR K (c.add p ho o) := by
  have hp : p ∉ c.al := fun m => s.al p m h
  have t := tr_add (ho := ho) (o := o) s h
  refine ⟨fun a m => ?_, fun a m e => s.hd a m (t.dom a e), by show (c.al ++ [p]).length = (c.st ++ [o]).length; rw [List.length_append, List.length_append, s.len]; rfl, ?_, ?_, ?_⟩
  · have m : a ∈ c.al ++ [p] := m
    rcases List.mem_append.mp m with m | m
    · exact s.dj a m
    · rw [List.mem_singleton] at m
      subst m
      exact fun m => s.hd a m h
  · show (c.al ++ [p]).Nodup
    rw [List.nodup_append]
    refine ⟨s.nd, by simp, fun a m b mb => ?_⟩
    rw [List.mem_singleton] at mb
    rintro rfl
    subst mb
    exact hp m
  · intro a m
    have m : a ∈ c.al ++ [p] := m
    rcases List.mem_append.mp m with m | m
    · exact fun e => s.al a m (t.dom a e)
    · rw [List.mem_singleton] at m
      subst m
      show upd c.hp a ho a ≠ none
      rw [upd_same]
      intro e; cases e
  · intro i a u e1 e2
    have f1 : (c.al ++ [p])[i]? = some a := e1
    have f2 : (c.st ++ [o])[i]? = some u := e2
    by_cases q : i < c.al.length
    · rw [List.getElem?_append_left q] at f1
      rw [List.getElem?_append_left (by rw [← s.len]; exact q)] at f2
      refine (s.ob i a u f1 f2).tr t ?_
      show upd c.hp p ho a = _
      rw [upd_ne]
      intro z
      subst z
      exact hp (List.mem_of_getElem? f1)
    · rw [List.getElem?_append_right (Nat.le_of_not_lt q)] at f1
      rw [List.getElem?_append_right (by rw [← s.len]; exact Nat.le_of_not_lt q)] at f2
      cases hi : i - c.al.length with
      | zero =>
        rw [hi] at f1
        rw [← s.len, hi] at f2
        cases f1
        cases f2
        exact r
      | succ k => rw [hi] at f1; cases f1
theorem add_idx {p : Addr} {ho : HO} {o : AO} (s : SR K c) : (c.add p ho o).al[c.st.length]? = some p := by
  show (c.al ++ [p])[c.st.length]? = _
  rw [← s.len, List.getElem?_append_right (Nat.le_refl _), Nat.sub_self]
  rfl
/-- a named object changed -/
def Cf.put (c : Cf) (i : Nat) (a : Addr) (ho : HO) (o : AO) : Cf := ⟨c.al, c.st.set i o, upd c.hp a ho, c.hid⟩
theorem tr_put {i : Nat} {a : Addr} {ho : HO} {o u : AO} (s : SR K c) (ia : c.al[i]? = some a) (iu : c.st[i]? = some u) (hu : u ≠ .dead) : Tr c (c.put i a ho o) := by
  refine ⟨⟨[], by simp [Cf.put]⟩, fun b v n e => ⟨?_, ?_⟩, fun b e => ?_, rfl, fun b m => ?_⟩
  · rintro (m | ⟨j, w, e1, e2, e3⟩)
    · exact n (Or.inl m)
    have e1 : c.al[j]? = some b := e1
    have e2 : (c.st.set i o)[j]? = some w := e2
    by_cases q : i = j
    · subst q
      rw [ia] at e1; cases e1
      exact n (Or.inr ⟨i, u, ia, iu, hu⟩)
    · rw [List.getElem?_set_ne q] at e2
      exact n (Or.inr ⟨j, w, e1, e2, e3⟩)
  · show upd c.hp a ho b = _
    rw [upd_ne]
    · exact e
    · rintro rfl
      exact n (Or.inr ⟨i, u, ia, iu, hu⟩)
  · have e : upd c.hp a ho b = none := e
    by_cases q : b = a
    · subst q; rw [upd_same] at e; cases e
    · rw [upd_ne q] at e; exact e
  · show upd c.hp a ho b = _
    rw [upd_ne]
    rintro rfl
    exact s.dj b (List.mem_of_getElem? ia) m
theorem nodup_idx {l : List Addr} (nd : l.Nodup) {i j : Nat} {a : Addr} (h : l[i]? = some a) (g : l[j]? = some a) : i = j := by
  obtain ⟨hi, e⟩ := List.getElem?_eq_some_iff.mp h
  obtain ⟨hj, f⟩ := List.getElem?_eq_some_iff.mp g
  exact (List.getElem_inj nd).mp (e.trans f.symm)
theorem sr_put {i : Nat} {a : Addr} {ho : HO} {o u : AO} (s : SR K c) (ia : c.al[i]? = some a) (iu : c.st[i]? = some u) (hu : u ≠ .dead) (r : Ro K (c.put i a ho o) a o) : SR K (c.put i a ho o) := by
  have t := tr_put (ho := ho) (o := o) s ia iu hu
  refine ⟨s.dj, fun b m e => s.hd b m (t.dom b e), by show c.al.length = (c.st.set i o).length; rw [List.length_set]; exact s.len, s.nd, fun b m e => s.al b m (t.dom b e), fun j b v e1 e2 => ?_⟩
  have f1 : c.al[j]? = some b := e1
  have f2 : (c.st.set i o)[j]? = some v := e2
  by_cases q : i = j
  · subst q
    rw [ia] at f1; cases f1
    rw [List.getElem?_set_self (s.lt ia)] at f2
    cases f2
    exact r
  · rw [List.getElem?_set_ne q] at f2
    refine (s.ob j b v f1 f2).tr t ?_
    show upd c.hp a ho b = _
    rw [upd_ne]
    rintro rfl
    exact q (nodup_idx s.nd ia f1)
/-- a named list becomes data -/
def Cf.kill (c : Cf) (i : Nat) : Cf := { c with st := c.st.set i .dead }
theorem kill_alive {i : Nat} {a : Addr} (h : (c.kill i).Alive a) : c.Alive a := by
  rcases h with m | ⟨j, o, e1, e2, e3⟩
  · exact Or.inl m
  have e2 : (c.st.set i .dead)[j]? = some o := e2
  by_cases q : i = j
  · subst q
    rw [List.getElem?_set_self'] at e2
    cases h1 : c.st[i]? with
    | none => rw [h1] at e2; cases e2
    | some z => rw [h1] at e2; have e2 : some AO.dead = some o := by simpa using e2
                cases e2; exact absurd rfl e3
  · rw [List.getElem?_set_ne q] at e2
    exact Or.inr ⟨j, o, e1, e2, e3⟩
theorem tr_kill {i : Nat} : Tr c (c.kill i) := ⟨⟨[], by simp [Cf.kill]⟩, fun a o n e => ⟨fun h => n (kill_alive h), e⟩, fun _ e => e, rfl, fun _ _ => rfl⟩
theorem sr_kill {i : Nat} (s : SR K c) : SR K (c.kill i) := by
  refine ⟨s.dj, s.hd, by show c.al.length = (c.st.set i .dead).length; rw [List.length_set]; exact s.len, s.nd, s.al, fun j b v e1 e2 => ?_⟩
  have f2 : (c.st.set i .dead)[j]? = some v := e2
  by_cases q : i = j
  · subst q
    rw [List.getElem?_set_self'] at f2
    cases h1 : c.st[i]? with
    | none => rw [h1] at f2; cases f2
    | some z => rw [h1] at f2; have f2 : some AO.dead = some v := by simpa using f2
                cases f2; trivial
  · rw [List.getElem?_set_ne q] at f2
    exact (s.ob j b v e1 f2).tr tr_kill rfl
theorem rvs_dta : ∀ {vs : List V} {ds : List PyData}, Rvs K c vs (ds.map AV.d) → DtA K c.Alive c.hp vs ds
  | _, [], .nil => .nil
  | _, d :: ds, .cons h g => .cons h (rvs_dta g)
theorem dta_rvs : ∀ {vs : List V} {ds : List PyData}, DtA K c.Alive c.hp vs ds → Rvs K c vs (ds.map AV.d)
  | _, [], .nil => .nil
  | _, d :: ds, .cons h g => .cons h (dta_rvs g)
theorem kill_rv {i : Nat} {a : Addr} {ds : List PyData} (s : SR K c) (ia : c.al[i]? = some a) (io : c.st[i]? = some (.lst (ds.map AV.d))) : Rv K (c.kill i) (.ref a) (.d (.list ds)) := by
  obtain ⟨vs, e, r⟩ := s.ob i a _ ia io
  refine .lst ?_ e (rvs_dta ((tr_kill (i := i)).rvs r))
  rintro (m | ⟨j, o, e1, e2, e3⟩)
  · exact s.dj a (List.mem_of_getElem? ia) m
  have e1 : c.al[j]? = some a := e1
  have : i = j := nodup_idx s.nd ia e1
  subst this
  have e2 : (c.st.set i .dead)[i]? = some o := e2
  rw [List.getElem?_set_self (s.lt ia)] at e2
  cases e2
  exact e3 rfl
end
end AL

set_option Elab.async false
set_option linter.all false
set_option maxRecDepth 100000
set_option maxHeartbeats 4000000
/-! AL4: what an expression gives (Ev, Et, Ea: always the same; Wx, Wt, Wa: with what follows), what a statement does (Ws). -/
namespace AL
open PySem PySem.Spec PyProof.Rows L2
theorem paired_app {α β : Type} {R : α → β → Prop} : ∀ {l l' : List α} {m m' : List β}, Paired R l m → Paired R l' m' → Paired R (l ++ l') (m ++ m')
  | _, _, _, _, .nil, h => h
  | _, _, _, _, .cons h t, g => .cons h (paired_app t g)
section defs
variable (K : PySem.W.Frag) (b : Cf)
def Ev (te : TE) (sl : Sl) (st : Sto) (x : AV) : Prop := ∀ (c : Cf) (σ : L2.St), c.st = st → SR K c → SS K c σ sl → ∀ Q : VK, (∀ v c', Tr c c' → SR K c' → c'.st = st → Rv K c' v x → Q v c'.hp) → te σ c.hp Q
def Et (tt : TT) (sl : Sl) (st : Sto) (r : Bool) : Prop := ∀ (c : Cf) (σ : L2.St), c.st = st → SR K c → SS K c σ sl → ∀ Q : Bool → Hp → Prop, (∀ c', Tr c c' → SR K c' → c'.st = st → Q r c'.hp) → tt σ c.hp Q
def Ea (ta : TA) (sl : Sl) (st : Sto) (xs : List AV) : Prop := ∀ (c : Cf) (σ : L2.St), c.st = st → SR K c → SS K c σ sl → ∀ Q : List V → Hp → Prop, (∀ vs c', Tr c c' → SR K c' → c'.st = st → Rvs K c' vs xs → Q vs c'.hp) → ta σ c.hp Q
def Eo (to : TO) (sl : Sl) (st : Sto) (r : Option Int) : Prop := ∀ (c : Cf) (σ : L2.St), c.st = st → SR K c → SS K c σ sl → ∀ Q : Option Int → Hp → Prop, (∀ c', Tr c c' → SR K c' → c'.st = st → Q r c'.hp) → to σ c.hp Q
def Wx (te : TE) (sl : Sl) (st : Sto) (Φ : AV → Sto → Prop) : Prop := ∀ (c : Cf) (σ : L2.St), c.st = st → Tr b c → SR K c → SS K c σ sl → ∀ Q : VK, (∀ v c' x, Tr c c' → SR K c' → Rv K c' v x → Φ x c'.st → Q v c'.hp) → te σ c.hp Q
def Wt (tt : TT) (sl : Sl) (st : Sto) (Φ : Bool → Sto → Prop) : Prop := ∀ (c : Cf) (σ : L2.St), c.st = st → Tr b c → SR K c → SS K c σ sl → ∀ Q : Bool → Hp → Prop, (∀ r c', Tr c c' → SR K c' → Φ r c'.st → Q r c'.hp) → tt σ c.hp Q
def Wa (ta : TA) (sl : Sl) (st : Sto) (Φ : List AV → Sto → Prop) : Prop := ∀ (c : Cf) (σ : L2.St), c.st = st → Tr b c → SR K c → SS K c σ sl → ∀ Q : List V → Hp → Prop, (∀ vs c' xs, Tr c c' → SR K c' → Rvs K c' vs xs → Φ xs c'.st → Q vs c'.hp) → ta σ c.hp Q
/-- a two-place operation on values (pure), a call on values (pure) -/
def Op (r : R2) (x y : AV) (st : Sto) (z : AV) : Prop := ∀ (c : Cf) (v w : V), c.st = st → SR K c → Rv K c v x → Rv K c w y → ∀ Q : VK, (∀ u c', Tr c c' → SR K c' → c'.st = st → Rv K c' u z → Q u c'.hp) → r v w c.hp Q
def Oc (r : List V → Hp → VK → Prop) (xs : List AV) (st : Sto) (z : AV) : Prop := ∀ (c : Cf) (vs : List V), c.st = st → SR K c → Rvs K c vs xs → ∀ Q : VK, (∀ u c', Tr c c' → SR K c' → c'.st = st → Rv K c' u z → Q u c'.hp) → r vs c.hp Q
def Om (T : String) (r : V → List V → Hp → VK → Prop) (x : AV) (xs : List AV) (st : Sto) (z : AV) : Prop := ∀ (c : Cf) (v : V), c.st = st → SR K c → Rv K c v x → tyV K T v c.hp ∧ ∀ (c1 : Cf) (vs : List V), Tr c c1 → SR K c1 → c1.st = st → Rvs K c1 vs xs → ∀ Q : VK, (∀ u c', Tr c1 c' → SR K c' → c'.st = st → Rv K c' u z → Q u c'.hp) → r v vs c1.hp Q
structure DE where
  nx : Sl → Sto → Prop
  rt : AV → Sto → Prop
  bk : Sl → Sto → Prop := fun _ _ => False
  ct : Sl → Sto → Prop := fun _ _ => False
structure DOk (D : Ends) (e : DE) : Prop where
  nx : ∀ (c : Cf) (σ : L2.St) (sl : Sl), Tr b c → SR K c → SS K c σ sl → e.nx sl c.st → D.nx σ c.hp
  rt : ∀ (c : Cf) (v : V) (x : AV), Tr b c → SR K c → Rv K c v x → e.rt x c.st → D.rt v c.hp
  bk : ∀ (c : Cf) (σ : L2.St) (sl : Sl), Tr b c → SR K c → SS K c σ sl → e.bk sl c.st → D.bk σ c.hp
  ct : ∀ (c : Cf) (σ : L2.St) (sl : Sl), Tr b c → SR K c → SS K c σ sl → e.ct sl c.st → D.ct σ c.hp
def Ws (ts : TS) (sl : Sl) (st : Sto) (e : DE) : Prop := ∀ b', Tr b b' → ∀ D, DOk K b' D e → ∀ (c : Cf) (σ : L2.St), c.st = st → Tr b' c → SR K c → SS K c σ sl → ts D σ c.hp
/-- an exception as the proofs speak of it -/
structure AE where
  cls : Value
  fs : Option (List (Str × AV))
def Er (c : Cf) (cls : Value) (d : Option Addr) (e : AE) : Prop := cls = e.cls ∧ match e.fs with
  | none => d = none
  | some fs => ∃ dx ws, d = some dx ∧ c.hp dx = some (.xd ws) ∧ ¬ c.Alive dx ∧ Rf K c ws fs
/-- what follows an exception -/
def ErrOk (W : WX) (G : Sl → AE → Sto → Prop) : Prop := ∀ (cls : Value) (d : Option Addr) (c : Cf) (σ : L2.St) (sl : Sl) (e : AE), Tr b c → SR K c → SS K c σ sl → Er K c cls d e → G sl e c.st → W cls d σ c.hp
/-- a promise on data and names -/
abbrev DS := List AV → Sto → (AV → Sto → Prop) → (AE → Sto → Prop) → Prop
def spD (F : DS) : Sp := fun vs H Q E => ∃ (c : Cf) (xs : List AV) (Φ : AV → Sto → Prop) (Ψ : AE → Sto → Prop), c.hp = H ∧ SR K c ∧ Rvs K c vs xs ∧ F xs c.st Φ Ψ ∧
  (∀ v c' x, Tr c c' → SR K c' → Rv K c' v x → Φ x c'.st → Q v c'.hp) ∧ ∀ cls d c' e, Tr c c' → SR K c' → Er K c' cls d e → Ψ e c'.st → E cls d c'.hp
end defs
section
variable {K : PySem.W.Frag} {b : Cf} {sl : Sl} {st : Sto} {te ta tb tc : TE} {tt tu : TT} {x y z : AV} {Φ : AV → Sto → Prop} {p q : Bool}
/-! ### from pure to the rest -/
theorem wx_of (h : Ev K te sl st x) (k : Φ x st) : Wx K b te sl st Φ := fun c σ e _ s S Q q => h c σ e s S Q fun v c' t s' e' r => q v c' x t s' r (by rw [e']; exact k)
theorem wt_of {Φ : Bool → Sto → Prop} (h : Et K tt sl st p) (k : Φ p st) : Wt K b tt sl st Φ := fun c σ e _ s S Q q => h c σ e s S Q fun c' t s' e' => q p c' t s' (by rw [e']; exact k)
theorem wa_of {ta : TA} {xs : List AV} {Φ : List AV → Sto → Prop} (h : Ea K ta sl st xs) (k : Φ xs st) : Wa K b ta sl st Φ := fun c σ e _ s S Q q => h c σ e s S Q fun v c' t s' e' r => q v c' xs t s' r (by rw [e']; exact k)
theorem Wx.mono {Φ' : AV → Sto → Prop} (h : Wx K b te sl st Φ) (k : ∀ x st', Φ x st' → Φ' x st') : Wx K b te sl st Φ' := fun c σ e tb s S Q q => h c σ e tb s S Q fun v c' x t s' r f => q v c' x t s' r (k _ _ f)
/-! ### pure expressions -/
theorem ev_var {i : Nat} (h : sl[i]? = some (some x)) : Ev K (tVar i) sl st x := fun c σ e s S Q q =>
  let ⟨v, h1, h2⟩ := S.2 i x h
  ⟨v, h1, q v c (Tr.refl c) s e h2⟩
theorem ev_raw {v : V} : Ev K (tC v) sl st (.raw v) := fun c σ e s S Q q => q v c (Tr.refl c) s e rfl
theorem ev_i {i : Int} : Ev K (tC (.int i)) sl st (.d (.int i)) := fun c σ e s S Q q => q _ c (Tr.refl c) s e (.int i)
theorem ev_b {r : Bool} : Ev K (tC (.bl r)) sl st (.d (.bool r)) := fun c σ e s S Q q => q _ c (Tr.refl c) s e (.bl r)
theorem ev_n : Ev K (tC .non) sl st (.d .none) := fun c σ e s S Q q => q _ c (Tr.refl c) s e .non
theorem ev_s {z : Str} : Ev K (tC (.str z)) sl st (.d (.str z)) := fun c σ e s S Q q => q _ c (Tr.refl c) s e (.str z)
theorem ev_op {r : R2} (ha : Ev K ta sl st x) (hb : Ev K tb sl st y) (hr : Op K r x y st z) : Ev K (tOp r ta tb) sl st z := fun c σ e s S Q q =>
  ha c σ e s S _ fun v c1 t1 s1 e1 r1 => hb c1 σ e1 s1 (t1.ss S) _ fun w c2 t2 s2 e2 r2 => hr c2 v w e2 s2 (t2.rv r1) r2 Q fun u c3 t3 s3 e3 r3 => q u c3 ((t1.trans t2).trans t3) s3 e3 r3
theorem ev_cb {r : List V → Hp → VK → Prop} {ta : TA} {xs : List AV} (ha : Ea K ta sl st xs) (hr : Oc K r xs st z) : Ev K (tCB r ta) sl st z := fun c σ e s S Q q =>
  ha c σ e s S _ fun vs c1 t1 s1 e1 r1 => hr c1 vs e1 s1 r1 Q fun u c3 t3 s3 e3 r3 => q u c3 (t1.trans t3) s3 e3 r3
theorem ev_bm {T : String} {r : V → List V → Hp → VK → Prop} {to : TE} {ta : TA} {xs : List AV} (ho : Ev K to sl st x) (ha : Ea K ta sl st xs) (hr : Om K T r x xs st z) : Ev K (tBM K T r to ta) sl st z := fun c σ e s S Q q =>
  ho c σ e s S _ fun v c1 t1 s1 e1 r1 => ⟨(hr c1 v e1 s1 r1).1, ha c1 σ e1 s1 (t1.ss S) _ fun vs c2 t2 s2 e2 r2 => (hr c1 v e1 s1 r1).2 c2 vs t2 s2 e2 r2 Q fun u c3 t3 s3 e3 r3 => q u c3 ((t1.trans t2).trans t3) s3 e3 r3⟩
theorem ea_nil : Ea K tNil sl st [] := fun c σ e s S Q q => q [] c (Tr.refl c) s e .nil
theorem ea_cons {tr : TA} {xs : List AV} (h : Ev K te sl st x) (hr : Ea K tr sl st xs) : Ea K (tCons te tr) sl st (x :: xs) := fun c σ e s S Q q =>
  h c σ e s S _ fun v c1 t1 s1 e1 r1 => hr c1 σ e1 s1 (t1.ss S) _ fun vs c2 t2 s2 e2 r2 => q (v :: vs) c2 (t1.trans t2) s2 e2 (.cons (t2.rv r1) r2)
theorem et_B (h : Ev K te sl st (.d (.bool p))) : Et K (tB te) sl st p := fun c σ e s S Q q => h c σ e s S _ fun v c1 t1 s1 e1 r1 => ⟨p, by cases r1; rfl, q c1 t1 s1 e1⟩
theorem et_test (h : Ev K te sl st (.d (.bool p))) : Et K (tTest te) sl st p := fun c σ e s S Q q => h c σ e s S _ fun v c1 t1 s1 e1 r1 => ⟨p, by cases r1; rfl, q c1 t1 s1 e1⟩
theorem et_not (h : Et K tt sl st p) : Et K (tNot tt) sl st (!p) := fun c σ e s S Q q => h c σ e s S _ fun c1 t1 s1 e1 => q c1 t1 s1 e1
theorem et_and (h1 : Et K tt sl st p) (h2 : p = true → Et K tu sl st q) : Et K (tAnd tt tu) sl st (p && q) := fun c σ e s S Q k => h1 c σ e s S _ fun c1 t1 s1 e1 => by
  cases p with
  | true =>
    show tu σ c1.hp Q
    exact h2 rfl c1 σ e1 s1 (t1.ss S) Q fun c2 t2 s2 e2 => k c2 (t1.trans t2) s2 e2
  | false =>
    show Q false c1.hp
    exact k c1 t1 s1 e1
theorem et_or (h1 : Et K tt sl st p) (h2 : p = false → Et K tu sl st q) : Et K (tOr tt tu) sl st (p || q) := fun c σ e s S Q k => h1 c σ e s S _ fun c1 t1 s1 e1 => by
  cases p with
  | true =>
    show Q true c1.hp
    exact k c1 t1 s1 e1
  | false =>
    show tu σ c1.hp Q
    exact h2 rfl c1 σ e1 s1 (t1.ss S) Q fun c2 t2 s2 e2 => k c2 (t1.trans t2) s2 e2
theorem ev_andV (h1 : Ev K ta sl st (.d (.bool p))) (h2 : p = true → Ev K tb sl st (.d (.bool q))) : Ev K (tAndV ta tb) sl st (.d (.bool (p && q))) := fun c σ e s S Q k => h1 c σ e s S _ fun v c1 t1 s1 e1 r1 => ⟨p, by cases r1; rfl, by
  cases p with
  | true =>
    show tb σ c1.hp Q
    exact h2 rfl c1 σ e1 s1 (t1.ss S) Q fun v c2 t2 s2 e2 r2 => k v c2 (t1.trans t2) s2 e2 r2
  | false =>
    show Q (.bl false) c1.hp
    exact k _ c1 t1 s1 e1 (.bl _)⟩
theorem ev_orV (h1 : Ev K ta sl st (.d (.bool p))) (h2 : p = false → Ev K tb sl st (.d (.bool q))) : Ev K (tOrV ta tb) sl st (.d (.bool (p || q))) := fun c σ e s S Q k => h1 c σ e s S _ fun v c1 t1 s1 e1 r1 => ⟨p, by cases r1; rfl, by
  cases p with
  | true =>
    show Q (.bl true) c1.hp
    exact k _ c1 t1 s1 e1 (.bl _)
  | false =>
    show tb σ c1.hp Q
    exact h2 rfl c1 σ e1 s1 (t1.ss S) Q fun v c2 t2 s2 e2 r2 => k v c2 (t1.trans t2) s2 e2 r2⟩
theorem ev_notV (h1 : Ev K ta sl st (.d (.bool p))) : Ev K (tNotV ta) sl st (.d (.bool (!p))) := fun c σ e s S Q k => h1 c σ e s S _ fun v c1 t1 s1 e1 r1 => ⟨p, by cases r1; rfl, k _ c1 t1 s1 e1 (.bl _)⟩
theorem ev_if (h : Et K tt sl st p) (h1 : p = true → Ev K ta sl st x) (h2 : p = false → Ev K tb sl st x) : Ev K (tIf tt ta tb) sl st x := fun c σ e s S Q k => h c σ e s S _ fun c1 t1 s1 e1 => by
  cases p with
  | true =>
    show ta σ c1.hp Q
    exact h1 rfl c1 σ e1 s1 (t1.ss S) Q fun v c2 t2 s2 e2 r2 => k v c2 (t1.trans t2) s2 e2 r2
  | false =>
    show tb σ c1.hp Q
    exact h2 rfl c1 σ e1 s1 (t1.ss S) Q fun v c2 t2 s2 e2 r2 => k v c2 (t1.trans t2) s2 e2 r2
theorem ev_is (h : Ev K te sl st x) (e : x = y) : Ev K te sl st y := e ▸ h
theorem et_is (h : Et K tt sl st p) (e : p = q) : Et K tt sl st q := e ▸ h
/-- a comparison of three -/
theorem ev_chain {r r' : R2} (ha : Ev K ta sl st x) (hb : Ev K tb sl st y) (hr : Op K r x y st (.d (.bool p))) (hc : p = true → Ev K tc sl st z) (hr' : p = true → Op K r' y z st (.d (.bool q))) : Ev K (tChain r r' ta tb tc) sl st (.d (.bool (p && q))) := fun c σ e s S Q k =>
  ha c σ e s S _ fun v c1 t1 s1 e1 r1 => hb c1 σ e1 s1 (t1.ss S) _ fun w c2 t2 s2 e2 r2 => hr c2 v w e2 s2 (t2.rv r1) r2 _ fun u c3 t3 s3 e3 r3 => ⟨p, by cases r3; rfl, by
  cases p with
  | true =>
    exact hc rfl c3 σ e3 s3 (((t1.trans t2).trans t3).ss S) _ fun u4 c4 t4 s4 e4 r4 => hr' rfl c4 w u4 e4 s4 ((t3.trans t4).rv r2) r4 Q fun u5 c5 t5 s5 e5 r5 => k u5 c5 ((((t1.trans t2).trans t3).trans t4).trans t5) s5 e5 r5
  | false => exact k _ c3 ((t1.trans t2).trans t3) s3 e3 (.bl _)⟩
/-- a written tuple, a written list, as data -/
theorem ev_tup {ta : TA} {ds : List PyData} (h : Ea K ta sl st (ds.map AV.d)) (hl : ds.length ≤ 100000) : Ev K (tTup ta) sl st (.d (.tuple ds)) := fun c σ e s S Q q => h c σ e s S _ fun vs c1 t1 s1 e1 r1 => by
  have a := rvs_dta r1
  refine ⟨Nat.le_trans (by rw [a.len]; exact hl) (by decide), fun p hp => ?_⟩
  obtain ⟨t2, s2, n2⟩ := tr_new (o := .tup vs) s1 hp
  exact q _ _ (t1.trans t2) s2 e1 (.tup n2 upd_same (DtA.mono t2.keep _ _ a))
theorem ev_lst {ta : TA} {ds : List PyData} (h : Ea K ta sl st (ds.map AV.d)) (hl : ds.length ≤ 100000) : Ev K (tLst ta) sl st (.d (.list ds)) := fun c σ e s S Q q => h c σ e s S _ fun vs c1 t1 s1 e1 r1 => by
  have a := rvs_dta r1
  refine ⟨Nat.le_trans (by rw [a.len]; exact hl) (by decide), fun p hp => ?_⟩
  obtain ⟨t2, s2, n2⟩ := tr_new (o := .lst vs) s1 hp
  exact q _ _ (t1.trans t2) s2 e1 (.lst n2 upd_same (DtA.mono t2.keep _ _ a))
/-- a written list, as a named object -/
theorem wx_lst {ta : TA} {xs : List AV} (h : Ea K ta sl st xs) (hl : xs.length ≤ 100000) (k : Φ (.o st.length) (st ++ [.lst xs])) : Wx K b (tLst ta) sl st Φ := fun c σ e _ s S Q q => h c σ e s S _ fun vs c1 t1 s1 e1 r1 => by
  refine ⟨Nat.le_trans (by rw [show vs.length = xs.length from r1.length]; exact hl) (by decide), fun p hp => ?_⟩
  have t2 := tr_add (ho := .lst vs) (o := .lst xs) s1 hp
  have s2 := sr_add (ho := .lst vs) (o := .lst xs) s1 hp ⟨vs, upd_same, t2.rvs r1⟩
  refine q (.ref p) _ (.o st.length) (t1.trans t2) s2 ⟨p, ?_, rfl⟩ ?_
  · rw [← e1]; exact add_idx s1
  · show Φ _ (c1.st ++ [.lst xs])
    rw [e1]; exact k
/-! ### expressions that may change objects -/
theorem wx_op {r : R2} (ha : Wx K b ta sl st fun x st1 => Wx K b tb sl st1 fun y st2 => ∃ z, Op K r x y st2 z ∧ Φ z st2) : Wx K b (tOp r ta tb) sl st Φ := fun c σ e tb s S Q q =>
  ha c σ e tb s S _ fun v c1 x t1 s1 r1 h1 => h1 c1 σ rfl (tb.trans t1) s1 (t1.ss S) _ fun w c2 y t2 s2 r2 ⟨z, hr, k⟩ => hr c2 v w rfl s2 (t2.rv r1) r2 Q fun u c3 t3 s3 e3 r3 => q u c3 z ((t1.trans t2).trans t3) s3 r3 (by rw [e3]; exact k)
theorem wx_cb {r : List V → Hp → VK → Prop} {ta : TA} (ha : Wa K b ta sl st fun xs st1 => ∃ z, Oc K r xs st1 z ∧ Φ z st1) : Wx K b (tCB r ta) sl st Φ := fun c σ e tb s S Q q =>
  ha c σ e tb s S _ fun vs c1 xs t1 s1 r1 ⟨z, hr, k⟩ => hr c1 vs rfl s1 r1 Q fun u c3 t3 s3 e3 r3 => q u c3 z (t1.trans t3) s3 r3 (by rw [e3]; exact k)
theorem wa_nil {Φ : List AV → Sto → Prop} (k : Φ [] st) : Wa K b tNil sl st Φ := wa_of ea_nil k
theorem wa_cons {tr : TA} {Φ : List AV → Sto → Prop} (h : Wx K b te sl st fun x st1 => Wa K b tr sl st1 fun xs st2 => Φ (x :: xs) st2) : Wa K b (tCons te tr) sl st Φ := fun c σ e tb s S Q q =>
  h c σ e tb s S _ fun v c1 x t1 s1 r1 h1 => h1 c1 σ rfl (tb.trans t1) s1 (t1.ss S) _ fun vs c2 xs t2 s2 r2 k => q (v :: vs) c2 (x :: xs) (t1.trans t2) s2 (.cons (t2.rv r1) r2) k
theorem wt_B {Φ : Bool → Sto → Prop} (h : Wx K b te sl st fun x st1 => ∃ r, x = .d (.bool r) ∧ Φ r st1) : Wt K b (tB te) sl st Φ := fun c σ e tb s S Q q =>
  h c σ e tb s S _ fun v c1 x t1 s1 r1 ⟨r, e2, k⟩ => by
    subst e2
    exact ⟨r, by cases r1; rfl, q r c1 t1 s1 k⟩
theorem wt_test {Φ : Bool → Sto → Prop} (h : Wx K b te sl st fun x st1 => ∃ r, x = .d (.bool r) ∧ Φ r st1) : Wt K b (tTest te) sl st Φ := fun c σ e tb s S Q q =>
  h c σ e tb s S _ fun v c1 x t1 s1 r1 ⟨r, e2, k⟩ => by
    subst e2
    exact ⟨r, by cases r1; rfl, q r c1 t1 s1 k⟩
theorem wx_if (h : Wt K b tt sl st fun r st1 => if r = true then Wx K b ta sl st1 Φ else Wx K b tc sl st1 Φ) : Wx K b (tIf tt ta tc) sl st Φ := fun c σ e tb s S Q q =>
  h c σ e tb s S _ fun r c1 t1 s1 h1 => by
    cases r with
    | true =>
      rw [if_pos rfl] at h1 ⊢
      exact h1 c1 σ rfl (tb.trans t1) s1 (t1.ss S) Q fun v c2 x t2 s2 r2 k => q v c2 x (t1.trans t2) s2 r2 k
    | false =>
      rw [if_neg (by decide)] at h1 ⊢
      exact h1 c1 σ rfl (tb.trans t1) s1 (t1.ss S) Q fun v c2 x t2 s2 r2 k => q v c2 x (t1.trans t2) s2 r2 k
/-- a written tuple behind things that change objects -/
theorem wx_tup {ta : TA} (h : Wa K b ta sl st fun xs st1 => ∃ ds : List PyData, xs = ds.map AV.d ∧ ds.length ≤ 100000 ∧ Φ (.d (.tuple ds)) st1) : Wx K b (tTup ta) sl st Φ := fun c σ e tb s S Q q => h c σ e tb s S _ fun vs c1 xs t1 s1 r1 ⟨ds, e2, hl, k⟩ => by
  subst e2
  have a := rvs_dta r1
  refine ⟨Nat.le_trans (by rw [a.len]; exact hl) (by decide), fun p hp => ?_⟩
  obtain ⟨t2, s2, n2⟩ := tr_new (o := .tup vs) s1 hp
  exact q (.ref p) _ (.d (.tuple ds)) (t1.trans t2) s2 (Dt.tup n2 upd_same (DtA.mono t2.keep _ _ a)) k
/-- a call -/
theorem wx_cal {F : DS} {W : WX} {G : Sl → AE → Sto → Prop} {dvs : List V} {ds : List AV} {ta : TA} (hW : ErrOk K b W G) (hd : ∀ c, Rvs K c dvs ds) (h : Wa K b ta sl st fun xs st1 => F (xs ++ ds) st1 Φ (G sl)) : Wx K b (tCalW (spD K F) dvs W ta) sl st Φ := fun c σ e tb s S Q q =>
  h c σ e tb s S _ fun vs c1 xs t1 s1 r1 f => ⟨c1, xs ++ ds, Φ, G sl, rfl, s1, paired_app r1 (hd c1), f, fun v c2 x t2 s2 r2 k => q v c2 x (t1.trans t2) s2 r2 k, fun cls d c2 a t2 s2 r2 k => hW cls d c2 σ sl a ((tb.trans t1).trans t2) s2 ((t1.trans t2).ss S) r2 k⟩
/-- a call without an exception, always the same -/
theorem ev_cal {F : DS} {W : WX} {dvs : List V} {ds : List AV} {ta : TA} {xs : List AV} (hd : ∀ c, Rvs K c dvs ds) (ha : Ea K ta sl st xs) (hf : F (xs ++ ds) st (fun y st' => y = x ∧ st' = st) (fun _ _ => False)) : Ev K (tCalW (spD K F) dvs W ta) sl st x := fun c σ e s S Q q =>
  ha c σ e s S _ fun vs c1 t1 s1 e1 r1 => ⟨c1, xs ++ ds, _, _, rfl, s1, paired_app r1 (hd c1), by rw [e1]; exact hf, fun v c2 y t2 s2 r2 k => by
    obtain ⟨k1, k2⟩ := k
    subst k1
    exact q v c2 (t1.trans t2) s2 k2 r2, fun cls d c2 a t2 s2 r2 k => False.elim k⟩
/-! ### statements -/
variable {e : DE} {ts tu' : TS}
theorem ws_seq (h : Ws K b ts sl st { e with nx := fun sl' st' => Ws K b tu' sl' st' e }) : Ws K b (tSeq ts tu') sl st e := fun b' hb D d c σ ec tb s S =>
  h b' hb { D with nx := tu' D } ⟨fun c1 σ1 sl1 t1 s1 S1 k => k b' hb D d c1 σ1 rfl t1 s1 S1, d.rt, d.bk, d.ct⟩ c σ ec tb s S
theorem ws_next (h : e.nx sl st) : Ws K b tNext sl st e := fun b' hb D d c σ ec tb s S => d.nx c σ sl tb s S (by rw [ec]; exact h)
theorem ws_brk (h : e.bk sl st) : Ws K b tBreak sl st e := fun b' hb D d c σ ec tb s S => d.bk c σ sl tb s S (by rw [ec]; exact h)
theorem ws_cont (h : e.ct sl st) : Ws K b tCont sl st e := fun b' hb D d c σ ec tb s S => d.ct c σ sl tb s S (by rw [ec]; exact h)
theorem ws_ret (h : Wx K b te sl st e.rt) : Ws K b (tRet te) sl st e := fun b' hb D d c σ ec tb s S => h c σ ec (hb.trans tb) s S D.rt fun v c1 x t1 s1 r1 k => d.rt c1 v x (tb.trans t1) s1 r1 k
theorem ws_retN (h : e.rt (.d .none) st) : Ws K b tRetN sl st e := fun b' hb D d c σ ec tb s S => d.rt c .non (.d .none) tb s .non (by rw [ec]; exact h)
theorem ws_asg {i : Nat} (h : Wx K b te sl st fun x st1 => e.nx (sl.set i (some x)) st1) : Ws K b (tAsg te (gName i)) sl st e := fun b' hb D d c σ ec tb s S => h c σ ec (hb.trans tb) s S _ fun v c1 x t1 s1 r1 k => d.nx c1 _ _ (tb.trans t1) s1 ((t1.ss S).set r1) k
theorem ws_drop (h : Wx K b te sl st fun x st1 => e.nx sl st1) : Ws K b (tDrop te) sl st e := fun b' hb D d c σ ec tb s S => h c σ ec (hb.trans tb) s S _ fun v c1 x t1 s1 r1 k => d.nx c1 _ _ (tb.trans t1) s1 (t1.ss S) k
theorem ws_if {tt : TT} (h : Wt K b tt sl st fun r st1 => if r = true then Ws K b ts sl st1 e else Ws K b tu' sl st1 e) : Ws K b (tIfS tt ts tu') sl st e := fun b' hb D d c σ ec tb s S => h c σ ec (hb.trans tb) s S _ fun r c1 t1 s1 h1 => by
  cases r with
  | true =>
    rw [if_pos rfl] at h1 ⊢
    exact h1 b' hb D d c1 σ rfl (tb.trans t1) s1 (t1.ss S)
  | false =>
    rw [if_neg (by decide)] at h1 ⊢
    exact h1 b' hb D d c1 σ rfl (tb.trans t1) s1 (t1.ss S)
theorem Ws.mono {e' : DE} (h : Ws K b ts sl st e') (k1 : ∀ sl st, e'.nx sl st → e.nx sl st) (k2 : ∀ x st, e'.rt x st → e.rt x st) (k3 : ∀ sl st, e'.bk sl st → e.bk sl st) (k4 : ∀ sl st, e'.ct sl st → e.ct sl st) : Ws K b ts sl st e := fun b' hb D d c σ ec tb s S =>
  h b' hb D ⟨fun c σ sl t s S k => d.nx c σ sl t s S (k1 _ _ k), fun c v x t s r k => d.rt c v x t s r (k2 _ _ k), fun c σ sl t s S k => d.bk c σ sl t s S (k3 _ _ k), fun c σ sl t s S k => d.ct c σ sl t s S (k4 _ _ k)⟩ c σ ec tb s S
/-- a named list becomes data, ahead of a statement -/
theorem ws_kill {i j : Nat} {ds : List PyData} (hj : sl[j]? = some (some (.o i))) (hi : st[i]? = some (.lst (ds.map AV.d))) (h : Ws K b ts (sl.set j (some (.d (.list ds)))) (st.set i .dead) e) : Ws K b ts sl st e := fun b' hb D d c σ ec tb s S => by
  subst ec
  obtain ⟨v, h1, a, ia, hv⟩ := S.2 j _ hj
  subst hv
  have := h b' hb D d (c.kill i) σ rfl (tb.trans tr_kill) (sr_kill s) ?_
  · exact this
  · have S2 := ((tr_kill (i := i)).ss S).set (i := j) (kill_rv s ia hi)
    have e3 : σ.set j (some (.ref a)) = σ := by
      obtain ⟨hl, q⟩ := List.getElem?_eq_some_iff.mp h1
      rw [← q]; exact List.set_getElem_self hl
    rw [e3] at S2
    exact S2
end
end AL

set_option Elab.async false
set_option linter.all false
set_option maxRecDepth 100000
set_option maxHeartbeats 4000000
/-! AL5: operations on data. -/
namespace AL
open PySem PySem.Spec PyProof.Rows L2
abbrev S (l : List Nat) : Str := ⟨l.toArray⟩
abbrev dS (z : Str) : AV := .d (.str z)
abbrev dI (i : Int) : AV := .d (.int i)
abbrev dB (b : Bool) : AV := .d (.bool b)
abbrev dT (xs : List PyData) : AV := .d (.tuple xs)
abbrev dL (xs : List PyData) : AV := .d (.list xs)
abbrev dN : AV := .d .none
section
variable {K : PySem.W.Frag} {c : Cf} {st : Sto}
theorem rv_s {v : V} {z : Str} (r : Rv K c v (dS z)) : v = .str z := by cases r; rfl
theorem rv_i {v : V} {i : Int} (r : Rv K c v (dI i)) : v = .int i := by cases r; rfl
theorem rv_b {v : V} {i : Bool} (r : Rv K c v (dB i)) : v = .bl i := by cases r; rfl
theorem rv_n {v : V} (r : Rv K c v dN) : v = .non := by cases r; rfl
theorem rv_l {v : V} {ds : List PyData} (r : Rv K c v (dL ds)) : ∃ a xs, v = .ref a ∧ c.hp a = some (.lst xs) ∧ DtA K c.Alive c.hp xs ds := by
  cases r with
  | lst m e a => exact ⟨_, _, rfl, e, a⟩
theorem rv_t {v : V} {ds : List PyData} (r : Rv K c v (dT ds)) : ∃ a xs, v = .ref a ∧ SqT K c.hp a xs ∧ DtA K c.Alive c.hp xs ds := by
  cases r with
  | tup m e a => exact ⟨_, _, rfl, Or.inl (Or.inl e), a⟩
/-! ### two-place operations -/
theorem o_I {f : Int → Int → Int} {i j : Int} : Op K (rI0 fun i j => .int (f i j)) (dI i) (dI j) st (dI (f i j)) := fun c v w e s r1 r2 Q q =>
  ⟨i, j, rv_i r1, rv_i r2, q _ c (Tr.refl c) s e (.int _)⟩
theorem o_Ib {f : Int → Int → Bool} {i j : Int} : Op K (rI0 fun i j => .bl (f i j)) (dI i) (dI j) st (dB (f i j)) := fun c v w e s r1 r2 Q q =>
  ⟨i, j, rv_i r1, rv_i r2, q _ c (Tr.refl c) s e (.bl _)⟩
theorem o_IC {C : Int → Int → Prop} {f : Int → Int → Int} {i j : Int} (h : C i j) : Op K (rI C fun i j => .int (f i j)) (dI i) (dI j) st (dI (f i j)) := fun c v w e s r1 r2 Q q =>
  ⟨i, j, rv_i r1, rv_i r2, h, q _ c (Tr.refl c) s e (.int _)⟩
/-- + of ints, texts, lists, tuples -/
def rCatS' : R2 := fun x y H Q => ∃ i j, x = .str i ∧ y = .str j ∧ i.length + j.length ≤ sizeLine ∧ Q (.str (i ++ j)) H
def rADD (K : PySem.W.Frag) : R2 := fun x y H Q => (rI0 fun i j => .int (i + j)) x y H Q ∨ rCatS' x y H Q ∨ rCatA K x y H Q ∨ rCat x y H Q
theorem op_ADD {X : Cx} : OpR X (binaryOp .Add) (rADD X.K) := op_add.or (op_add_str.or (op_catA.or op_cat))
theorem o_addI {i j : Int} : Op K (rADD K) (dI i) (dI j) st (dI (i + j)) := fun c v w e s r1 r2 Q q => Or.inl (o_I (f := (· + ·)) c v w e s r1 r2 Q q)
theorem o_addS {x y : Str} (h : x.length + y.length ≤ 10000000) : Op K (rADD K) (dS x) (dS y) st (dS (x ++ y)) := fun c v w e s r1 r2 Q q =>
  Or.inr (Or.inl ⟨x, y, rv_s r1, rv_s r2, Nat.le_trans h (by decide), q _ c (Tr.refl c) s e (.str _)⟩)
theorem o_addT {xs ys : List PyData} (h : xs.length + ys.length ≤ 10000000) : Op K (rADD K) (dT xs) (dT ys) st (dT (xs ++ ys)) := fun c v w e s r1 r2 Q q => by
  obtain ⟨a, us, rfl, h1, d1⟩ := rv_t r1
  obtain ⟨a', ws, rfl, h2, d2⟩ := rv_t r2
  refine Or.inr (Or.inr (Or.inl ⟨a, a', us, ws, rfl, rfl, h1, h2, Nat.le_trans (by rw [d1.len, d2.len]; exact h) (by decide), fun h => ?_, fun _ h => ?_, fun _ _ p hp => ?_⟩))
  · subst h
    cases d1
    exact q _ c (Tr.refl c) s e r2
  · subst h
    cases d2
    rw [List.append_nil] at q
    exact q _ c (Tr.refl c) s e r1
  · obtain ⟨t2, s2, n2⟩ := tr_new (o := .tup (us ++ ws)) s hp
    exact q _ _ t2 s2 e (.tup n2 upd_same (DtA.mono t2.keep _ _ (d1.app d2)))
theorem o_addL {xs ys : List PyData} (h : xs.length + ys.length ≤ 10000000) : Op K (rADD K) (dL xs) (dL ys) st (dL (xs ++ ys)) := fun c v w e s r1 r2 Q q => by
  obtain ⟨a, us, rfl, h1, d1⟩ := rv_l r1
  obtain ⟨a', ws, rfl, h2, d2⟩ := rv_l r2
  refine Or.inr (Or.inr (Or.inr ⟨a, a', us, ws, rfl, rfl, h1, h2, Nat.le_trans (by rw [d1.len, d2.len]; exact h) (by decide), fun p hp => ?_⟩))
  obtain ⟨t2, s2, n2⟩ := tr_new (o := .lst (us ++ ws)) s hp
  exact q _ _ t2 s2 e (.lst n2 upd_same (DtA.mono t2.keep _ _ (d1.app d2)))
/-! == and != of data -/
theorem o_eq {x y : PyData} (hx : SeqAt.shaped x = true) (hy : SeqAt.shaped y = true) : Op K (rEqD K) (.d x) (.d y) st (dB (PyData.eqv x y)) := fun c v w e s r1 r2 Q q =>
  ⟨x, y, Dt.dp _ _ r1, Dt.dp _ _ r2, hx, hy, q _ c (Tr.refl c) s e (.bl _)⟩
theorem o_ne {x y : PyData} (hx : SeqAt.shaped x = true) (hy : SeqAt.shaped y = true) : Op K (rNeD K) (.d x) (.d y) st (dB (!PyData.eqv x y)) := fun c v w e s r1 r2 Q q =>
  ⟨x, y, Dt.dp _ _ r1, Dt.dp _ _ r2, hx, hy, q _ c (Tr.refl c) s e (.bl _)⟩
def isNone : PyData → Bool
  | .none => true
  | _ => false
theorem o_isN {x : PyData} : Op K rIsN (.d x) dN st (dB (isNone x)) := fun c v w e s r1 r2 Q q => ⟨rv_n r2, by
  have : (decide (v = V.non)) = isNone x := by
    cases r1 <;> simp [isNone]
  rw [this]
  exact q _ c (Tr.refl c) s e (.bl _)⟩
theorem o_notN {x : PyData} : Op K rNotN (.d x) dN st (dB (!isNone x)) := fun c v w e s r1 r2 Q q => ⟨rv_n r2, by
  have : (decide (v = V.non)) = isNone x := by
    cases r1 <;> simp [isNone]
  rw [this]
  exact q _ c (Tr.refl c) s e (.bl _)⟩
/-! in, not in: a sign in a text -/
theorem o_inS {k : Nat} {z : Str} : Op K rInS (dS (S [k])) (dS z) st (dB (decide (k ∈ z.cps.toList))) := fun c v w e s r1 r2 Q q => ⟨k, z, rv_s r1, rv_s r2, q _ c (Tr.refl c) s e (.bl _)⟩
theorem o_notInS {k : Nat} {z : Str} : Op K rNotInS (dS (S [k])) (dS z) st (dB (!decide (k ∈ z.cps.toList))) := fun c v w e s r1 r2 Q q => ⟨k, z, rv_s r1, rv_s r2, q _ c (Tr.refl c) s e (.bl _)⟩
/-! items -/
theorem o_ixL {xs : List PyData} {i : Int} {x : PyData} (h : atI xs i = some x) : Op K (rIx K) (dL xs) (dI i) st (.d x) := fun c v w e s r1 r2 Q q => by
  obtain ⟨a, us, rfl, h1, d1⟩ := rv_l r1
  have hl := d1.len
  unfold atI at h
  cases hj : ixN xs.length i with
  | none => rw [hj] at h; cases h
  | some j =>
    rw [hj] at h
    obtain ⟨u, hu, du⟩ := d1.get j x h
    exact Or.inl ⟨a, us, i, u, rfl, rv_i r2, Or.inl (Or.inl h1), by unfold atI; rw [hl, hj]; exact hu, q _ c (Tr.refl c) s e du⟩
theorem o_ixT {xs : List PyData} {i : Int} {x : PyData} (h : atI xs i = some x) : Op K (rIx K) (dT xs) (dI i) st (.d x) := fun c v w e s r1 r2 Q q => by
  obtain ⟨a, us, rfl, h1, d1⟩ := rv_t r1
  have hl := d1.len
  unfold atI at h
  cases hj : ixN xs.length i with
  | none => rw [hj] at h; cases h
  | some j =>
    rw [hj] at h
    obtain ⟨u, hu, du⟩ := d1.get j x h
    exact Or.inr (Or.inl ⟨a, us, i, u, rfl, rv_i r2, h1, by unfold atI; rw [hl, hj]; exact hu, q _ c (Tr.refl c) s e du⟩)
theorem o_ixS {z : Str} {i : Int} {k : Nat} (hl : z.length ≤ 10000000) (h : atI z.cps.toList i = some k) : Op K (rIx K) (dS z) (dI i) st (dS (S [k])) := fun c v w e s r1 r2 Q q =>
  Or.inr (Or.inr ⟨z, i, k, rv_s r1, rv_i r2, Nat.le_trans hl (by decide), h, q _ c (Tr.refl c) s e (.str _)⟩)
/-- an item of a named list -/
theorem o_ixO {n : Nat} {xs : List AV} {i : Int} {x : AV} (hn : st[n]? = some (.lst xs)) (h : atI xs i = some x) : Op K (rIx K) (.o n) (dI i) st x := fun c v w e s r1 r2 Q q => by
  obtain ⟨a, ia, rfl⟩ := r1
  obtain ⟨us, h1, d1⟩ := s.ob n a _ ia (by rw [e]; exact hn)
  have hl : us.length = xs.length := d1.length
  unfold atI at h
  cases hj : ixN xs.length i with
  | none => rw [hj] at h; cases h
  | some j =>
    rw [hj] at h
    have g : ∀ {us : List V} {xs : List AV} (j : Nat), Rvs K c us xs → xs[j]? = some x → ∃ u, us[j]? = some u ∧ Rv K c u x := by
      intro us xs j r
      induction r generalizing j with
      | nil => intro h; cases h
      | cons r _ ih =>
        intro h
        cases j with
        | zero => cases h; exact ⟨_, rfl, r⟩
        | succ j => exact ih j h
    obtain ⟨u, hu, du⟩ := g j d1 h
    exact Or.inl ⟨a, us, i, u, rfl, rv_i r2, Or.inl (Or.inl h1), by unfold atI; rw [hl, hj]; exact hu, q _ c (Tr.refl c) s e du⟩
/-! slices -/
def rSL (K : PySem.W.Frag) : V → Option Int → Option Int → Hp → VK → Prop := fun x lo hi H Q => rSlL K x lo hi H Q ∨ rSlA K x lo hi H Q ∨ C8.rSlX x lo hi H Q
theorem sl_SL {X : Cx} : SlR X (rSL X.K) := sl_list.or (sl_tupA.or C8.sl_txt)
def Os (K : PySem.W.Frag) (r : V → Option Int → Option Int → Hp → VK → Prop) (x : AV) (lo hi : Option Int) (st : Sto) (z : AV) : Prop := ∀ (c : Cf) (v : V), c.st = st → SR K c → Rv K c v x → ∀ Q : VK, (∀ u c', Tr c c' → SR K c' → c'.st = st → Rv K c' u z → Q u c'.hp) → r v lo hi c.hp Q
def cutD (xs : List PyData) (lo hi : Option Int) : List PyData := (xs.drop (HT.sIx xs.length 0 lo)).take (HT.sIx xs.length xs.length hi - HT.sIx xs.length 0 lo)
theorem DtA.cut {M : Addr → Prop} {H : Hp} {us : List V} {xs : List PyData} {lo hi : Option Int} (h : DtA K M H us xs) : DtA K M H (cutV us lo hi) (cutD xs lo hi) := by
  unfold cutV cutD
  rw [h.len]
  exact (h.drop _).take _
theorem o_slL {xs : List PyData} {lo hi : Option Int} : Os K (rSL K) (dL xs) lo hi st (dL (cutD xs lo hi)) := fun c v e s r1 Q q => by
  obtain ⟨a, us, rfl, h1, d1⟩ := rv_l r1
  refine Or.inl ⟨a, us, rfl, Or.inl (Or.inl h1), fun p hp => ?_⟩
  obtain ⟨t2, s2, n2⟩ := tr_new (o := .lst (cutV us lo hi)) s hp
  exact q _ _ t2 s2 e (.lst n2 upd_same (DtA.mono t2.keep _ _ d1.cut))
theorem o_slT {xs : List PyData} {lo hi : Option Int} : Os K (rSL K) (dT xs) lo hi st (dT (cutD xs lo hi)) := fun c v e s r1 Q q => by
  obtain ⟨a, us, rfl, h1, d1⟩ := rv_t r1
  refine Or.inr (Or.inl ⟨a, us, rfl, h1, fun h => ?_, fun _ p hp => ?_⟩)
  · refine q _ c (Tr.refl c) s e ?_
    have : cutD xs lo hi = xs := by
      unfold cutD
      rw [d1.len] at h
      rw [h.1, h.2, List.drop_zero, Nat.sub_zero, List.take_length]
    rw [this]
    exact r1
  · obtain ⟨t2, s2, n2⟩ := tr_new (o := .tup (cutV us lo hi)) s hp
    exact q _ _ t2 s2 e (.tup n2 upd_same (DtA.mono t2.keep _ _ d1.cut))
theorem o_slS {z : Str} {lo hi : Option Int} (hl : z.length ≤ 10000000) : Os K (rSL K) (dS z) lo hi st (dS (Txt.slice z lo hi)) := fun c v e s r1 Q q =>
  Or.inr (Or.inr ⟨z, rv_s r1, Nat.le_trans hl (by decide), q _ c (Tr.refl c) s e (.str _)⟩)
theorem ev_sl {sl : Sl} {te : TE} {tl th : TO} {r : V → Option Int → Option Int → Hp → VK → Prop} {x z : AV} {lo hi : Option Int} (h : Ev K te sl st x) (h1 : Eo K tl sl st lo) (h2 : Eo K th sl st hi) (hr : Os K r x lo hi st z) : Ev K (tSl r te tl th) sl st z := fun c σ e s S Q q =>
  h c σ e s S _ fun v c1 t1 s1 e1 r1 => h1 c1 σ e1 s1 (t1.ss S) _ fun c2 t2 s2 e2 => h2 c2 σ e2 s2 ((t1.trans t2).ss S) _ fun c3 t3 s3 e3 => hr c3 v e3 s3 ((t2.trans t3).rv r1) Q fun u c4 t4 s4 e4 r4 => q u c4 (((t1.trans t2).trans t3).trans t4) s4 e4 r4
theorem eo_none {sl : Sl} : Eo K tNoPart sl st none := fun c σ e s S Q q => q c (Tr.refl c) s e
theorem eo_some {sl : Sl} {te : TE} {i : Int} (h : Ev K te sl st (dI i)) : Eo K (tPart te) sl st (some i) := fun c σ e s S Q q => h c σ e s S _ fun v c1 t1 s1 e1 r1 => ⟨i, rv_i r1, q c1 t1 s1 e1⟩
/-! ### calls of built-ins -/
theorem rvs1 {vs : List V} {x : AV} (r : Rvs K c vs [x]) : ∃ v, vs = [v] ∧ Rv K c v x := by
  cases r with
  | cons r t => cases t; exact ⟨_, rfl, r⟩
theorem rvs2 {vs : List V} {x y : AV} (r : Rvs K c vs [x, y]) : ∃ v w, vs = [v, w] ∧ Rv K c v x ∧ Rv K c w y := by
  cases r with
  | cons r t =>
    obtain ⟨w, rfl, q⟩ := rvs1 t
    exact ⟨_, _, rfl, r, q⟩
abbrev rLEN (K : PySem.W.Frag) : List V → Hp → VK → Prop := fun xs H Q => ∃ x n, xs = [x] ∧ LenV K x H n ∧ Q (.int n) H
theorem o_lenS {z : Str} (h : z.length ≤ 10000000) : Oc K (rLEN K) [dS z] st (dI z.length) := fun c vs e s r Q q => by
  obtain ⟨v, rfl, r0⟩ := rvs1 r
  exact ⟨v, z.length, rfl, by rw [rv_s r0]; exact ⟨Nat.le_trans h (by decide), rfl⟩, q _ c (Tr.refl c) s e (.int _)⟩
theorem o_lenL {xs : List PyData} : Oc K (rLEN K) [dL xs] st (dI xs.length) := fun c vs e s r Q q => by
  obtain ⟨v, rfl, r0⟩ := rvs1 r
  obtain ⟨a, us, rfl, h1, d1⟩ := rv_l r0
  exact ⟨_, xs.length, rfl, Or.inl ⟨us, Or.inl (Or.inl h1), d1.len.symm⟩, q _ c (Tr.refl c) s e (.int _)⟩
theorem o_lenT {xs : List PyData} : Oc K (rLEN K) [dT xs] st (dI xs.length) := fun c vs e s r Q q => by
  obtain ⟨v, rfl, r0⟩ := rvs1 r
  obtain ⟨a, us, rfl, h1, d1⟩ := rv_t r0
  exact ⟨_, xs.length, rfl, Or.inr ⟨us, h1, d1.len.symm⟩, q _ c (Tr.refl c) s e (.int _)⟩
theorem o_lenO {n : Nat} {xs : List AV} (hn : st[n]? = some (.lst xs)) : Oc K (rLEN K) [.o n] st (dI xs.length) := fun c vs e s r Q q => by
  obtain ⟨v, rfl, a, ia, rfl⟩ := rvs1 r
  obtain ⟨us, h1, d1⟩ := s.ob n a _ ia (by rw [e]; exact hn)
  exact ⟨_, xs.length, rfl, Or.inl ⟨us, Or.inl (Or.inl h1), d1.length.symm⟩, q _ c (Tr.refl c) s e (.int _)⟩
/-- isinstance with a built-in type -/
def tyD : PyData → String
  | .none => "NoneType"
  | .bool _ => "bool"
  | .int _ => "int"
  | .str _ => "str"
  | .list _ => "list"
  | .tuple _ => "tuple"
  | .dict _ => "dict"
theorem ty_rv {v : V} : ∀ {x : PyData}, Rv K c v (.d x) → TyX K c.hp v (.type (tyD x))
  | .none, r => by cases r; exact .base .non
  | .bool b, r => by cases r; exact .base (.bl b)
  | .int i, r => by cases r; exact .base (.int i)
  | .str z, r => by cases r; exact .base (.str z)
  | .list _, r => by cases r with | lst _ e _ => exact .base (.lst e)
  | .tuple _, r => by
    cases r with
    | tup _ e _ => exact .base (.tup e)
  | .dict _, r => by cases r
theorem o_is {x : PyData} {T : String} {b : Bool} (h : kitB (tyD x) T = some b) : Oc K (rIs K) [.d x, .raw (.ty T)] st (dB b) := fun c vs e s r Q q => by
  obtain ⟨v, w, rfl, r1, r2⟩ := rvs2 r
  cases r2
  exact ⟨v, tyD x, T, b, rfl, ty_rv r1, h, q _ c (Tr.refl c) s e (.bl _)⟩
/-- all, any of a list of bools -/
theorem o_all {xs : List Bool} : Oc K (rAll K) [dL (xs.map PyData.bool)] st (dB (xs.all id)) := fun c vs e s r Q q => by
  obtain ⟨v, rfl, r0⟩ := rvs1 r
  obtain ⟨a, us, rfl, h1, d1⟩ := rv_l r0
  have := d1.bls
  subst this
  exact ⟨a, xs, rfl, Or.inl (Or.inl h1), q _ c (Tr.refl c) s e (.bl _)⟩
theorem o_any {xs : List Bool} : Oc K (rAny K) [dL (xs.map PyData.bool)] st (dB (xs.any id)) := fun c vs e s r Q q => by
  obtain ⟨v, rfl, r0⟩ := rvs1 r
  obtain ⟨a, us, rfl, h1, d1⟩ := rv_l r0
  have := d1.bls
  subst this
  exact ⟨a, xs, rfl, Or.inl (Or.inl h1), q _ c (Tr.refl c) s e (.bl _)⟩
/-- tuple(list), tuple(tuple) -/
def rTUP (K : PySem.W.Frag) : List V → Hp → VK → Prop := fun xs H Q => ∃ p ys, xs = [.ref p] ∧ ((SqL K H p ys ∧ ∀ l, H l = none → Q (.ref l) (upd H l (.tup ys))) ∨ (SqT K H p ys ∧ Q (.ref p) H))
theorem o_tupL {xs : List PyData} : Oc K (rTUP K) [dL xs] st (dT xs) := fun c vs e s r Q q => by
  obtain ⟨v, rfl, r0⟩ := rvs1 r
  obtain ⟨a, us, rfl, h1, d1⟩ := rv_l r0
  refine ⟨a, us, rfl, Or.inl ⟨Or.inl (Or.inl h1), fun p hp => ?_⟩⟩
  obtain ⟨t2, s2, n2⟩ := tr_new (o := .tup us) s hp
  exact q _ _ t2 s2 e (.tup n2 upd_same (DtA.mono t2.keep _ _ d1))
theorem o_tupT {xs : List PyData} : Oc K (rTUP K) [dT xs] st (dT xs) := fun c vs e s r Q q => by
  obtain ⟨v, rfl, r0⟩ := rvs1 r
  obtain ⟨a, us, rfl, h1, d1⟩ := rv_t r0
  exact ⟨a, us, rfl, Or.inr ⟨h1, q _ c (Tr.refl c) s e r0⟩⟩
/-- str(int), str(str) -/
abbrev rSTR : List V → Hp → VK → Prop := fun xs H Q => ∃ i : Int, xs = [.int i] ∧ i.natAbs.log2 < 1920 ∧ Q (.str (toString i)) H
theorem o_strI {i : Int} (h : i.natAbs.log2 < 1920) : Oc K rSTR [dI i] st (dS (toString i)) := fun c vs e s r Q q => by
  obtain ⟨v, rfl, r0⟩ := rvs1 r
  cases rv_i r0
  exact ⟨i, rfl, h, q _ c (Tr.refl c) s e (.str _)⟩
/-- int(int), int(bool), int(text) -/
def rINT : List V → Hp → VK → Prop := fun xs H Q => ((∃ i, xs = [.int i] ∧ Q (.int i) H) ∨ ∃ k, xs = [.bl k] ∧ Q (.int (if k then 1 else 0)) H) ∨ ∃ a n, xs = [.str a] ∧ PySem.intText? a = some n ∧ a.length ≤ 640 ∧ Q (.int n) H
theorem call_INT {X : Cx} : CallR X (.type "int") rINT := call_int1.or call_int_str
theorem o_intS {z : Str} {n : Int} (h : PySem.intText? z = some n) (hl : z.length ≤ 640) : Oc K rINT [dS z] st (dI n) := fun c vs e s r Q q => by
  obtain ⟨v, rfl, r0⟩ := rvs1 r
  cases rv_s r0
  exact Or.inr ⟨z, n, rfl, h, hl, q _ c (Tr.refl c) s e (.int _)⟩
theorem o_intB {k : Bool} : Oc K rINT [dB k] st (dI (if k then 1 else 0)) := fun c vs e s r Q q => by
  obtain ⟨v, rfl, r0⟩ := rvs1 r
  cases rv_b r0
  exact Or.inl (Or.inr ⟨k, rfl, q _ c (Tr.refl c) s e (.int _)⟩)
/-! ### methods of texts -/
theorem o_m1 {r : V → List V → Hp → VK → Prop} {a b : Str} {z : AV} (h : ∀ (c : Cf), c.st = st → SR K c → ∀ Q : VK, (∀ u c', Tr c c' → SR K c' → c'.st = st → Rv K c' u z → Q u c'.hp) → r (.str a) [.str b] c.hp Q) : Om K "str" r (dS a) [dS b] st z := fun c v e s r1 => by
  cases rv_s r1
  refine ⟨rfl, fun c1 vs t1 s1 e1 r2 Q q => ?_⟩
  obtain ⟨v, rfl, r3⟩ := rvs1 r2
  cases rv_s r3
  exact h c1 e1 s1 Q q
abbrev rSPLIT : V → List V → Hp → VK → Prop := fun x xs H Q => ∃ a b, x = .str a ∧ xs = [.str b] ∧ (b.length == 0) = false ∧ a.length + 2 ≤ sizeLine ∧ rNewStrs (Txt.split a b) H Q
theorem o_split {a b : Str} (hb : (b.length == 0) = false) (hl : a.length ≤ 10000000) : Om K "str" rSPLIT (dS a) [dS b] st (dL ((Txt.split a b).map PyData.str)) := o_m1 fun c e s Q q =>
  ⟨a, b, rfl, rfl, hb, Nat.le_trans (Nat.add_le_add_right hl 2) (by decide), fun p hp => by
    obtain ⟨t2, s2, n2⟩ := tr_new (o := .lst ((Txt.split a b).map V.str)) s hp
    exact q _ _ t2 s2 e (.lst n2 upd_same (DtA.ofStrs _))⟩
abbrev rSTARTS : V → List V → Hp → VK → Prop := fun x xs H Q => ∃ a b, x = .str a ∧ xs = [.str b] ∧ Q (.bl (Txt.startswith a b)) H
theorem o_starts {a b : Str} : Om K "str" rSTARTS (dS a) [dS b] st (dB (Txt.startswith a b)) := o_m1 fun c e s Q q => ⟨a, b, rfl, rfl, q _ c (Tr.refl c) s e (.bl _)⟩
abbrev rJOIN (K : PySem.W.Frag) : V → List V → Hp → VK → Prop := fun x xs H Q => ∃ a p, ∃ ys : List Str, x = .str a ∧ xs = [.ref p] ∧ (SqL K H p (ys.map V.str) ∨ SqT K H p (ys.map V.str)) ∧
    (ys.map (·.length)).sum + ys.length * a.length ≤ 16777216 ∧ Q (.str (Txt.join a ys)) H
theorem o_joinL {a : Str} {ys : List Str} (hz : (ys.map (·.length)).sum + ys.length * a.length ≤ 10000000) : Om K "str" (rJOIN K) (dS a) [dL (ys.map PyData.str)] st (dS (Txt.join a ys)) := fun c v e s r1 => by
  cases rv_s r1
  refine ⟨rfl, fun c1 vs t1 s1 e1 r2 Q q => ?_⟩
  obtain ⟨v, rfl, r3⟩ := rvs1 r2
  obtain ⟨p, us, rfl, h1, d1⟩ := rv_l r3
  have := d1.strs
  subst this
  exact ⟨a, p, ys, rfl, rfl, Or.inl (Or.inl (Or.inl h1)), Nat.le_trans hz (by decide), q _ c1 (Tr.refl c1) s1 e1 (.str _)⟩
theorem o_joinT {a : Str} {ys : List Str} (hz : (ys.map (·.length)).sum + ys.length * a.length ≤ 10000000) : Om K "str" (rJOIN K) (dS a) [dT (ys.map PyData.str)] st (dS (Txt.join a ys)) := fun c v e s r1 => by
  cases rv_s r1
  refine ⟨rfl, fun c1 vs t1 s1 e1 r2 Q q => ?_⟩
  obtain ⟨v, rfl, r3⟩ := rvs1 r2
  obtain ⟨p, us, rfl, h1, d1⟩ := rv_t r3
  have := d1.strs
  subst this
  exact ⟨a, p, ys, rfl, rfl, Or.inr h1, Nat.le_trans hz (by decide), q _ c1 (Tr.refl c1) s1 e1 (.str _)⟩
end
end AL

set_option Elab.async false
set_option linter.all false
set_option maxRecDepth 100000
set_option maxHeartbeats 4000000
/-! AL6: what a loop walks, comprehensions, loops, defs. -/
namespace AL
open PySem PySem.Spec PyProof.Rows L2
/-- later, more may be hidden -/
structure Up (c c' : Cf) : Prop where
  pre : ∃ l, c'.al = c.al ++ l
  keep : ∀ a o, ¬ c.Alive a → c.hp a = some o → ¬ c'.Alive a ∧ c'.hp a = some o
  dom : ∀ a, c'.hp a = none → c.hp a = none
theorem Tr.up {c c' : Cf} (t : Tr c c') : Up c c' := ⟨t.pre, t.keep, t.dom⟩
theorem Up.trans {a b c : Cf} (h : Up a b) (g : Up b c) : Up a c := by
  obtain ⟨l, e⟩ := h.pre
  obtain ⟨l', e'⟩ := g.pre
  exact ⟨⟨l ++ l', by rw [e', e, List.append_assoc]⟩, fun x o n q => g.keep x o (h.keep x o n q).1 (h.keep x o n q).2, fun x q => h.dom x (g.dom x q)⟩
theorem Up.rv {K : PySem.W.Frag} {c c' : Cf} (h : Up c c') {v : V} {x : AV} (r : Rv K c v x) : Rv K c' v x := by
  cases x with
  | d x => exact Dt.mono h.keep x v r
  | o i =>
    obtain ⟨a, e, q⟩ := r
    obtain ⟨l, z⟩ := h.pre
    exact ⟨a, by rw [z, List.getElem?_append_left (List.getElem?_eq_some_iff.mp e).1]; exact e, q⟩
  | raw u => exact r
  | p xs =>
    obtain ⟨a, us, e, n, q, t⟩ := r
    refine ⟨a, us, e, (h.keep a _ n q).1, (h.keep a _ n q).2, paired_imp (fun v x r => ?_) t⟩
    cases x with
    | d x => exact Dt.mono h.keep x v r
    | o i =>
      obtain ⟨a, e, q⟩ := r
      obtain ⟨l, z⟩ := h.pre
      exact ⟨a, by rw [z, List.getElem?_append_left (List.getElem?_eq_some_iff.mp e).1]; exact e, q⟩
    | raw u => exact r
theorem Up.ss {K : PySem.W.Frag} {c c' : Cf} {σ : L2.St} {sl : Sl} (h : Up c c') (s : SS K c σ sl) : SS K c' σ sl :=
  ⟨s.1, fun i x e => let ⟨v, p, q⟩ := s.2 i x e; ⟨v, p, h.rv q⟩⟩
section defs
variable (K : PySem.W.Frag)
structure Wk (c : Cf) (J : It) (xs : List AV) : Prop where
  go : ∀ c2 i, Up c c2 → SR K c2 → i < xs.length → J.go i c2.hp
  stop : ∀ c2, Up c c2 → SR K c2 → J.stop xs.length c2.hp
  yld : ∀ c2 i x v H', Up c c2 → SR K c2 → xs[i]? = some x → J.yld i c2.hp v H' → ∃ c3, c3.hp = H' ∧ c3.st = c2.st ∧ Tr c2 c3 ∧ SR K c3 ∧ Rv K c3 v x
def Ei (wi : TI) (sl : Sl) (st : Sto) (xs : List AV) : Prop := ∀ (c : Cf) (σ : L2.St), c.st = st → SR K c → SS K c σ sl → ∀ R : It → Hp → Prop, (∀ J c', Tr c c' → SR K c' → c'.st = st → Wk K c' J xs → R J c'.hp) → wi σ c.hp R
def Wi (b : Cf) (wi : TI) (sl : Sl) (st : Sto) (Φ : List AV → Sto → Prop) : Prop := ∀ (c : Cf) (σ : L2.St), c.st = st → Tr b c → SR K c → SS K c σ sl → ∀ R : It → Hp → Prop, (∀ J c' xs, Tr c c' → SR K c' → Wk K c' J xs → Φ xs c'.st → R J c'.hp) → wi σ c.hp R
/-- a target takes x -/
def Eg (g : TG) (sl : Sl) (x : AV) (sl' : Sl) (js : List Nat) : Prop := ∀ (c : Cf) (σ : L2.St) (v : V), SR K c → SS K c σ sl → Rv K c v x → ∀ Q : L2.St → Hp → Prop, (∀ σ', SS K c σ' sl' → (∀ vs, (∀ j ∈ js, j ∈ vs) → wipe σ' vs = wipe σ vs) → Q σ' c.hp) → g v σ c.hp Q
def Egs (g : TGs) (sl : Sl) (xs : List AV) (sl' : Sl) (js : List Nat) : Prop := ∀ (c : Cf) (σ : L2.St) (vs : List V), SR K c → SS K c σ sl → Rvs K c vs xs → ∀ Q : L2.St → Hp → Prop, (∀ σ', SS K c σ' sl' → (∀ ws, (∀ j ∈ js, j ∈ ws) → wipe σ' ws = wipe σ ws) → Q σ' c.hp) → g vs σ c.hp Q
end defs
section
variable {K : PySem.W.Frag} {b : Cf} {sl sl' sl2 : Sl} {st : Sto} {te : TE} {x : AV}
theorem wipe_get {σ : L2.St} : ∀ {vs : List Nat} {i : Nat}, (wipe σ vs)[i]? = if i ∈ vs then (if i < σ.length then some none else none) else σ[i]?
  | [], i => by simp [wipe]
  | v :: vs, i => by
    unfold wipe
    by_cases h : v = i
    · subst h
      by_cases hl : v < σ.length
      · rw [List.getElem?_set_self (by rw [wipe_length]; exact hl)]
        simp [hl]
      · rw [List.getElem?_eq_none (by rw [List.length_set, wipe_length]; omega)]
        simp [hl]
    · rw [List.getElem?_set_ne h, wipe_get (vs := vs)]
      have : (i ∈ v :: vs) ↔ i ∈ vs := by simp [Ne.symm h]
      simp only [this]
theorem wipe_set {σ : L2.St} {vs : List Nat} {j : Nat} {y : Option V} (h : j ∈ vs) : wipe (σ.set j y) vs = wipe σ vs := by
  apply List.ext_getElem?
  intro i
  rw [wipe_get, wipe_get]
  by_cases hi : i ∈ vs
  · simp [hi]
  · have : j ≠ i := fun e => hi (e ▸ h)
    simp [hi, List.getElem?_set_ne this]
theorem wipe_wipe {σ : L2.St} {vs : List Nat} : wipe (wipe σ vs) vs = wipe σ vs := by
  apply List.ext_getElem?
  intro i
  rw [wipe_get, wipe_get, wipe_length]
  by_cases hi : i ∈ vs
  · simp [hi]
  · simp [hi, wipe_get]
/-- the slots of a block's own names forgotten -/
def wipeS (sl : Sl) : List Nat → Sl
  | [] => sl
  | v :: vs => (wipeS sl vs).set v none
theorem ss_wipe {c : Cf} {σ : L2.St} (S : SS K c σ sl) : ∀ vs : List Nat, SS K c (wipe σ vs) (wipeS sl vs)
  | [] => S
  | v :: vs => (ss_wipe S vs).forget
theorem eg_name {j : Nat} : Eg K (gName j) sl x (sl.set j (some x)) [j] := fun c σ v s S r Q q => q _ (S.set r) fun vs h => wipe_set (h j (List.mem_singleton.mpr rfl))
theorem egs_nil : Egs K gNil sl [] sl [] := fun c σ vs s S r Q q => by
  cases r
  exact ⟨rfl, q σ S fun _ _ => rfl⟩
theorem egs_cons {g : TG} {u : TGs} {xs : List AV} {js ks : List Nat} (h1 : Eg K g sl x sl2 js) (h2 : Egs K u sl2 xs sl' ks) : Egs K (gCons g u) sl (x :: xs) sl' (js ++ ks) := fun c σ vs s S r Q q => by
  cases r with
  | cons r t =>
    exact ⟨_, _, rfl, h1 c σ _ s S r _ fun σ1 S1 w1 => h2 c σ1 _ s S1 t Q fun σ2 S2 w2 => q σ2 S2 fun ws hw => (w2 ws fun j hj => hw j (List.mem_append_right _ hj)).trans (w1 ws fun j hj => hw j (List.mem_append_left _ hj))⟩
theorem eg_tup {n : Nat} {u : TGs} {ds : List PyData} {js : List Nat} (h : Egs K u sl (ds.map AV.d) sl' js) (hn : ds.length = n) : Eg K (gTup K n u) sl (dT ds) sl' js := fun c σ v s S r Q q => by
  obtain ⟨a, us, rfl, h1, d1⟩ := rv_t r
  exact ⟨a, us, rfl, h1, d1.len.trans hn, h c σ us s S (dta_rvs d1) Q q⟩
theorem eg_tupP {n : Nat} {u : TGs} {xs : List Lf} {js : List Nat} (h : Egs K u sl (xs.map Lf.av) sl' js) (hn : xs.length = n) : Eg K (gTup K n u) sl (.p xs) sl' js := fun c σ v s S r Q q => by
  obtain ⟨a, us, rfl, _, h1, t⟩ := r
  have hl : us.length = xs.length := t.length
  have g : ∀ {us : List V} {xs : List Lf}, Paired (RvL K c) us xs → Rvs K c us (xs.map Lf.av) := by
    intro us xs t
    induction t with
    | nil => exact .nil
    | cons r _ ih => exact .cons (rvL_rv r) ih
  exact ⟨a, us, rfl, Or.inl (Or.inl h1), hl.trans hn, h c σ us s S (g t) Q q⟩
/-! ### what is walked -/
theorem wi_of {wi : TI} {xs : List AV} {Φ : List AV → Sto → Prop} (h : Ei K wi sl st xs) (k : Φ xs st) : Wi K b wi sl st Φ := fun c σ e _ s S R q => h c σ e s S R fun J c' t s' e' w => q J c' xs t s' w (by rw [e']; exact k)
theorem walk_wk {c : Cf} {J : It} {xs : List AV} {ys : List V} {G : Hp → Prop} (w : Walk J ys.length G (YAt ys)) (hG : ∀ c2, Up c c2 → SR K c2 → G c2.hp) (r : Rvs K c ys xs) : Wk K c J xs := by
  have hl : ys.length = xs.length := r.length
  refine ⟨fun c2 i u s hi => w.goes i _ (by rw [hl]; exact hi) (hG c2 u s), fun c2 u s => by rw [← hl]; exact w.stops _ (hG c2 u s), fun c2 i x v H' u s hx hy => ?_⟩
  have hi : i < ys.length := by rw [hl]; exact (List.getElem?_eq_some_iff.mp hx).1
  obtain ⟨e1, e2⟩ := w.yields i _ v H' hi (hG c2 u s) hy
  refine ⟨c2, e1.symm, rfl, Tr.refl c2, s, u.rv ?_⟩
  have g : ∀ {us : List V} {xs : List AV} (j : Nat), Rvs K c us xs → us[j]? = some v → xs[j]? = some x → Rv K c v x := by
    intro us xs j r
    induction r generalizing j with
    | nil => intro h; cases h
    | cons r _ ih =>
      intro h h'
      cases j with
      | zero => cases h; cases h'; exact r
      | succ j => exact ih j h h'
  exact g i r e2 hx
theorem ei_list {tl : TE} {ds : List PyData} (h : Ev K tl sl st (dL ds)) : Ei K (iList K tl) sl st (ds.map AV.d) := fun c σ e s S R q => h c σ e s S _ fun v c1 t1 s1 e1 r1 => by
  cases r1 with
  | @lst a us _ m ea d1 => exact ⟨a, rfl, ⟨us, Or.inl (Or.inl ea)⟩, q _ c1 t1 s1 e1 (walk_wk walk_list (fun c2 u _ => Or.inl (Or.inl (u.keep _ _ m ea).2)) (dta_rvs d1))⟩
theorem ei_tup {tl : TE} {ds : List PyData} (h : Ev K tl sl st (dT ds)) : Ei K (iTup K tl) sl st (ds.map AV.d) := fun c σ e s S R q => h c σ e s S _ fun v c1 t1 s1 e1 r1 => by
  cases r1 with
  | @tup a us _ m ea d1 => exact ⟨a, rfl, ⟨us, Or.inl (Or.inl ea)⟩, q _ c1 t1 s1 e1 (walk_wk walk_tup (fun c2 u _ => Or.inl (Or.inl (u.keep _ _ m ea).2)) (dta_rvs d1))⟩
theorem wi_list {tl : TE} {Φ : List AV → Sto → Prop} (h : Wx K b tl sl st fun x st1 => ∃ ds, x = dL ds ∧ Φ (ds.map AV.d) st1) : Wi K b (iList K tl) sl st Φ := fun c σ e tb s S R q => h c σ e tb s S _ fun v c1 x t1 s1 r1 ⟨ds, e2, k⟩ => by
  subst e2
  cases r1 with
  | @lst a us _ m ea d1 => exact ⟨a, rfl, ⟨us, Or.inl (Or.inl ea)⟩, q _ c1 _ t1 s1 (walk_wk walk_list (fun c2 u _ => Or.inl (Or.inl (u.keep _ _ m ea).2)) (dta_rvs d1)) k⟩
/-- a list or a tuple or a text -/
def iAny (K : PySem.W.Frag) (te : TE) : TI := fun σ H R => te σ H fun x H1 => (∃ a, x = .ref a ∧ (∃ xs, SqL K H1 a xs) ∧ R (Itl K a) H1) ∨ (∃ a, x = .ref a ∧ (∃ xs, SqT K H1 a xs) ∧ R (Itt K a) H1) ∨ (∃ z, x = .str z ∧ R (Its z) H1)
theorem ei_str {te : TE} {z : Str} (h : Ev K te sl st (dS z)) : Ei K (iStr te) sl st (z.cps.toList.map fun k => dS (S [k])) := fun c σ e s S' R q => h c σ e s S' _ fun v c1 t1 s1 e1 r1 => by
  refine ⟨z, rv_s r1, q _ c1 t1 s1 e1 ⟨fun c2 i u s hi => ?_, fun c2 u s => ?_, fun c2 i x v H' u s hx hy => ?_⟩⟩
  · show i < z.cps.size
    simpa using hi
  · show z.cps.size ≤ _
    simp
  · obtain ⟨e2, k, hk, rfl⟩ := hy
    refine ⟨c2, e2.symm, rfl, Tr.refl c2, s, ?_⟩
    have : z.cps.toList[i]? = some k := by rw [Array.getElem?_toList]; exact hk
    rw [List.getElem?_map, this] at hx
    cases hx
    exact .str _
theorem ei_rng1 {ta : TA} {n : Int} (h : Ea K ta sl st [dI n]) (hn : n ≤ 1000000 ∧ -1000000 ≤ n) : Ei K (iRng1 ta) sl st ((List.range n.toNat).map fun i => dI (i : Nat)) := fun c σ e s S' R q => h c σ e s S' _ fun vs c1 t1 s1 e1 r1 => by
  obtain ⟨v, rfl, r2⟩ := rvs1 r1
  cases rv_i r2
  refine ⟨n, rfl, by omega, by omega, q _ c1 t1 s1 e1 ⟨fun c2 i u s hi => ?_, fun c2 u s => ?_, fun c2 i x v H' u s hx hy => ?_⟩⟩
  · show i < n.toNat
    simpa using hi
  · show n.toNat ≤ _
    simp
  · obtain ⟨e2, rfl⟩ := hy
    refine ⟨c2, e2.symm, rfl, Tr.refl c2, s, ?_⟩
    have hi : i < n.toNat := by simpa using (List.getElem?_eq_some_iff.mp hx).1
    rw [List.getElem?_map, List.getElem?_range hi] at hx
    cases hx
    rw [Int.zero_add]
    exact .int _
theorem wi_rng1 {ta : TA} {Φ : List AV → Sto → Prop} (h : Wa K b ta sl st fun xs st1 => ∃ n : Int, xs = [dI n] ∧ (n ≤ 1000000 ∧ -1000000 ≤ n) ∧ Φ ((List.range n.toNat).map fun i => dI (i : Nat)) st1) : Wi K b (iRng1 ta) sl st Φ := fun c σ e tb s S' R q => h c σ e tb s S' _ fun vs c1 xs t1 s1 r1 ⟨n, e3, hn, k⟩ => by
  subst e3
  obtain ⟨v, rfl, r2⟩ := rvs1 r1
  cases rv_i r2
  refine ⟨n, rfl, by omega, by omega, q _ c1 _ t1 s1 ⟨fun c2 i u s hi => ?_, fun c2 u s => ?_, fun c2 i x v H' u s hx hy => ?_⟩ k⟩
  · show i < n.toNat
    simpa using hi
  · show n.toNat ≤ _
    simp
  · obtain ⟨e2, rfl⟩ := hy
    refine ⟨c2, e2.symm, rfl, Tr.refl c2, s, ?_⟩
    have hi : i < n.toNat := by simpa using (List.getElem?_eq_some_iff.mp hx).1
    rw [List.getElem?_map, List.getElem?_range hi] at hx
    cases hx
    rw [Int.zero_add]
    exact .int _
/-- enumerate(data list) -/
def enumD : Nat → List PyData → List PyData
  | _, [] => []
  | n, d :: ds => .tuple [.int n, d] :: enumD (n + 1) ds
theorem enumD_get : ∀ (ds : List PyData) (n i : Nat), (enumD n ds)[i]? = ds[i]?.map fun d => .tuple [.int ((n + i : Nat) : Int), d]
  | [], n, i => by simp [enumD]
  | d :: ds, n, 0 => by simp [enumD]
  | d :: ds, n, i + 1 => by
    simp only [enumD, List.getElem?_cons_succ, enumD_get ds (n + 1) i]
    have : n + 1 + i = n + (i + 1) := by omega
    rw [this]
theorem enumD_len : ∀ (ds : List PyData) (n : Nat), (enumD n ds).length = ds.length
  | [], n => rfl
  | d :: ds, n => by simp [enumD, enumD_len ds (n + 1)]
theorem pair_new {c2 : Cf} {T : Addr} {u v : V} {x y : PyData} (s : SR K c2) (h : c2.hp T = none) (r1 : Rv K c2 u (.d x)) (r2 : Rv K c2 v (.d y)) : ∃ c3, c3.hp = upd c2.hp T (.tup [u, v]) ∧ c3.st = c2.st ∧ Tr c2 c3 ∧ SR K c3 ∧ Rv K c3 (.ref T) (dT [x, y]) := by
  obtain ⟨t, s3, n⟩ := tr_new (o := .tup [u, v]) s h
  exact ⟨c2.new T (.tup [u, v]), rfl, rfl, t, s3, Dt.tup n upd_same (.cons (t.rv (x := .d x) r1) (.cons (t.rv (x := .d y) r2) .nil))⟩
theorem ei_enum {ta : TA} {ds : List PyData} (h : Ea K ta sl st [dL ds]) : Ei K (iEnum K ta) sl st ((enumD 0 ds).map AV.d) := fun c σ e s S' R q => h c σ e s S' _ fun vs c1 t1 s1 e1 r1 => by
  obtain ⟨v, rfl, r2⟩ := rvs1 r1
  cases r2 with
  | @lst a us _ m ea d1 =>
    have L : ∀ c2, Up c1 c2 → SqL K c2.hp a us := fun c2 u => Or.inl (Or.inl (u.keep _ _ m ea).2)
    refine ⟨a, us, rfl, L c1 (Tr.refl c1).up, q _ c1 t1 s1 e1 ⟨fun c2 i u s hi => ?_, fun c2 u s => ?_, fun c2 i x v H' u s hx hy => ?_⟩⟩
    · rw [List.length_map, enumD_len, ← d1.len] at hi
      exact walk_enum.goes i _ hi (L c2 u)
    · rw [List.length_map, enumD_len, ← d1.len]
      exact walk_enum.stops _ (L c2 u)
    · have hi := (List.getElem?_eq_some_iff.mp hx).1
      rw [List.length_map, enumD_len, ← d1.len] at hi
      obtain ⟨T, v1, v2, rfl, hT, rfl, h3, h4⟩ := (walk_enum (K := K)).yields i _ v H' hi (L c2 u) hy
      rw [List.getElem?_map, enumD_get] at hx
      obtain ⟨d, hd, dd⟩ := d1.getV i v2 h4
      rw [hd] at hx
      cases hx
      cases h3
      have := pair_new s hT (u := .int (i : Nat)) (v := v2) (x := .int (i : Nat)) (y := d) (.int _) (u.rv (x := .d d) dd)
      simpa using this
/-- zip of two data lists -/
theorem ei_zip {ta : TA} {ds es : List PyData} (h : Ea K ta sl st [dL ds, dL es]) : Ei K (iZip K ta) sl st ((ds.zip es).map fun p => dT [p.1, p.2]) := fun c σ e s S' R q => h c σ e s S' _ fun vs c1 t1 s1 e1 r1 => by
  obtain ⟨v, w, rfl, r2, r3⟩ := rvs2 r1
  cases r2 with
  | @lst a us _ m ea d1 =>
    cases r3 with
    | @lst a' us' _ m' ea' d1' =>
      have L : ∀ c2, Up c1 c2 → SqL K c2.hp a us ∧ SqL K c2.hp a' us' := fun c2 u => ⟨Or.inl (Or.inl (u.keep _ _ m ea).2), Or.inl (Or.inl (u.keep _ _ m' ea').2)⟩
      have hl : ((ds.zip es).map fun p => dT [p.1, p.2]).length = min us.length us'.length := by rw [List.length_map, List.length_zip, d1.len, d1'.len]
      have w := walk_zip (K := K) (a := a) (b := a') (xs := us) (ys := us') hl
      refine ⟨a, a', us, us', rfl, (L c1 (Tr.refl c1).up).1, (L c1 (Tr.refl c1).up).2, q _ c1 t1 s1 e1 ⟨fun c2 i u s hi => w.goes i _ hi (L c2 u), fun c2 u s => w.stops _ (L c2 u), fun c2 i x v H' u s hx hy => ?_⟩⟩
      have hi := (List.getElem?_eq_some_iff.mp hx).1
      obtain ⟨T, v1, v2, rfl, hT, rfl, h3, h4⟩ := w.yields i _ v H' hi (L c2 u) hy
      obtain ⟨d, hd, dd⟩ := d1.getV i v1 h3
      obtain ⟨d', hd', dd'⟩ := d1'.getV i v2 h4
      have hz : (ds.zip es)[i]? = some (d, d') := by rw [List.getElem?_zip_eq_some]; exact ⟨hd, hd'⟩
      rw [List.getElem?_map, hz] at hx
      cases hx
      exact pair_new s hT (u.rv (x := .d d) dd) (u.rv (x := .d d') dd')
/-! ### comprehensions -/
/-- one turn of a comprehension -/
def Lc (K : PySem.W.Frag) (g : TG) (tt : TT) (te : TE) (vs : List Nat) (sl : Sl) (st : Sto) (x : AV) (r : Option PyData) : Prop := ∃ sl' js, (∀ j ∈ js, j ∈ vs) ∧ Eg K g (wipeS sl vs) x sl' js ∧ match r with
  | none => Et K tt sl' st false
  | some y => Et K tt sl' st true ∧ Ev K te sl' st (.d y)
/-- D hidden, over c1 -/
structure Hid (K : PySem.W.Frag) (c1 : Cf) (D : Addr) (c : Cf) (acc : List PyData) : Prop where
  s : SR K c
  hid : c.hid = D :: c1.hid
  al : ∃ l, c.al = c1.al ++ l
  up : Up c1 c
  kh : ∀ a ∈ c1.hid, c.hp a = c1.hp a
  acc : ∃ us, c.hp D = some (.lst us) ∧ DtA K c.Alive c.hp us acc
theorem hid_start {c1 : Cf} {D : Addr} (s : SR K c1) (h : c1.hp D = none) : Hid K c1 D ⟨c1.al, c1.st, upd c1.hp D (.lst []), D :: c1.hid⟩ [] := by
  have hD : D ∉ c1.al := fun m => s.al D m h
  have dom : ∀ a, upd c1.hp D (.lst []) a = none → c1.hp a = none := fun a e => by
    by_cases q : a = D
    · subst q; exact h
    · rw [upd_ne q] at e; exact e
  have u : Up c1 ⟨c1.al, c1.st, upd c1.hp D (.lst []), D :: c1.hid⟩ := ⟨⟨[], by simp⟩, fun a o n e => ⟨?_, by show upd c1.hp D _ a = _; rw [upd_ne (ne_of_none e h)]; exact e⟩, dom⟩
  · refine ⟨⟨fun a m => ?_, fun a m e => ?_, s.len, s.nd, fun a m e => s.al a m (dom a e), fun i a o e1 e2 => ?_⟩, rfl, ⟨[], by simp⟩, u, fun a m => ?_, [], upd_same, .nil⟩
    · show a ∉ D :: c1.hid
      rw [List.mem_cons, not_or]
      exact ⟨fun z => hD (z ▸ m), s.dj a m⟩
    · have m : a ∈ D :: c1.hid := m
      rcases List.mem_cons.mp m with rfl | m
      · have e : upd c1.hp a (.lst []) a = none := e
        rw [upd_same] at e; cases e
      · exact s.hd a m (dom a e)
    · have hne : a ≠ D := fun z => hD (z ▸ List.mem_of_getElem? e1)
      have := s.ob i a o e1 e2
      have eh : upd c1.hp D (.lst []) a = c1.hp a := upd_ne hne
      cases o with
      | dead => trivial
      | lst xs =>
        obtain ⟨vs, p, q⟩ := this
        exact ⟨vs, eh.trans p, paired_imp (fun _ _ r => u.rv r) q⟩
      | dk kvs =>
        obtain ⟨vs, p, q⟩ := this
        exact ⟨vs, eh.trans p, paired_imp (fun _ _ r => ⟨r.1, u.rv r.2⟩) q⟩
      | dt kvs =>
        obtain ⟨vs, p, q⟩ := this
        exact ⟨vs, eh.trans p, paired_imp (fun _ _ r => ⟨r.1, u.rv r.2⟩) q⟩
      | ins C fs =>
        obtain ⟨dx, vs, p, q⟩ := this
        exact ⟨dx, vs, eh.trans p, paired_imp (fun _ _ r => ⟨r.1, u.rv r.2⟩) q⟩
      | exc cls fs =>
        obtain ⟨d, vs, p, nx, x, q⟩ := this
        exact ⟨d, vs, eh.trans p, (xdict_keep (K := K) u.keep nx x).1, (xdict_keep (K := K) u.keep nx x).2, paired_imp (fun _ _ r => ⟨r.1, u.rv r.2⟩) q⟩
    · show upd c1.hp D _ a = _
      rw [upd_ne]
      rintro rfl
      exact s.hd a m h
  · rintro (m | m)
    · have m : a ∈ D :: c1.hid := m
      rcases List.mem_cons.mp m with rfl | m
      · rw [h] at e; cases e
      · exact n (Or.inl m)
    · exact n (Or.inr m)
theorem hid_tr {c1 c c' : Cf} {D : Addr} {acc : List PyData} (h : Hid K c1 D c acc) (t : Tr c c') (s : SR K c') : Hid K c1 D c' acc := by
  obtain ⟨l, e⟩ := h.al
  obtain ⟨l', e'⟩ := t.pre
  obtain ⟨us, h1, h2⟩ := h.acc
  have hD : D ∈ c.hid := by rw [h.hid]; exact List.mem_cons_self ..
  exact ⟨s, t.hid.trans h.hid, ⟨l ++ l', by rw [e', e, List.append_assoc]⟩, h.up.trans t.up, fun a m => (t.keepH a (by rw [h.hid]; exact List.mem_cons_of_mem _ m)).trans (h.kh a m), us, (t.keepH D hD).trans h1, DtA.mono t.keep _ _ h2⟩
/-- one more item -/
theorem hid_push {c1 c : Cf} {D : Addr} {acc : List PyData} {v : V} {y : PyData} (h : Hid K c1 D c acc) (hD1 : c1.hp D = none) (r : Rv K c v (.d y)) : ∃ us, c.hp D = some (.lst us) ∧ us.length = acc.length ∧ Hid K c1 D { c with hp := upd c.hp D (.lst (us ++ [v])) } (acc ++ [y]) := by
  obtain ⟨us, h1, h2⟩ := h.acc
  refine ⟨us, h1, h2.len, ?_⟩
  have hD : D ∈ c.hid := by rw [h.hid]; exact List.mem_cons_self ..
  have aD : c.Alive D := Or.inl hD
  have keep : ∀ a o, ¬ c.Alive a → c.hp a = some o → ¬ Cf.Alive { c with hp := upd c.hp D (.lst (us ++ [v])) } a ∧ upd c.hp D (.lst (us ++ [v])) a = some o := fun a o n e => ⟨n, by rw [upd_ne (fun z => n (by rw [z]; exact aD))]; exact e⟩
  have dom : ∀ a, upd c.hp D (.lst (us ++ [v])) a = none → c.hp a = none := fun a e => by
    by_cases q : a = D
    · subst q; rw [upd_same] at e; cases e
    · rw [upd_ne q] at e; exact e
  have u : Up c { c with hp := upd c.hp D (.lst (us ++ [v])) } := ⟨⟨[], by simp⟩, keep, dom⟩
  refine ⟨⟨h.s.dj, fun a m e => h.s.hd a m (dom a e), h.s.len, h.s.nd, fun a m e => h.s.al a m (dom a e), fun i a o e1 e2 => ?_⟩, h.hid, h.al, h.up.trans u, fun a m => ?_, us ++ [v], upd_same, (DtA.mono keep _ _ h2).app (.cons (Dt.mono keep _ _ r) .nil)⟩
  · have hne : a ≠ D := fun z => h.s.dj a (List.mem_of_getElem? e1) (by rw [z]; exact hD)
    have := h.s.ob i a o e1 e2
    have eh : upd c.hp D (.lst (us ++ [v])) a = c.hp a := upd_ne hne
    cases o with
    | dead => trivial
    | lst xs =>
      obtain ⟨vs, p, q⟩ := this
      exact ⟨vs, eh.trans p, paired_imp (fun _ _ r => u.rv r) q⟩
    | dk kvs =>
      obtain ⟨vs, p, q⟩ := this
      exact ⟨vs, eh.trans p, paired_imp (fun _ _ r => ⟨r.1, u.rv r.2⟩) q⟩
    | dt kvs =>
      obtain ⟨vs, p, q⟩ := this
      exact ⟨vs, eh.trans p, paired_imp (fun _ _ r => ⟨r.1, u.rv r.2⟩) q⟩
    | ins C fs =>
      obtain ⟨dx, vs, p, q⟩ := this
      exact ⟨dx, vs, eh.trans p, paired_imp (fun _ _ r => ⟨r.1, u.rv r.2⟩) q⟩
    | exc cls fs =>
      obtain ⟨d, vs, p, nx, x, q⟩ := this
      exact ⟨d, vs, eh.trans p, (xdict_keep (K := K) u.keep nx x).1, (xdict_keep (K := K) u.keep nx x).2, paired_imp (fun _ _ r => ⟨r.1, u.rv r.2⟩) q⟩
  · have hne : a ≠ D := fun z => by
      subst z
      have := h.kh a m
      rw [h1, hD1] at this
      cases this
    show upd c.hp D _ a = _
    rw [upd_ne hne]
    exact h.kh a m
/-- the end: the list is data -/
theorem hid_end {c1 c : Cf} {D : Addr} {acc : List PyData} (h : Hid K c1 D c acc) (hD1 : c1.hp D = none) : Tr c1 { c with hid := c1.hid } ∧ SR K { c with hid := c1.hid } ∧ Rv K { c with hid := c1.hid } (.ref D) (dL acc) := by
  have hD : D ∈ c.hid := by rw [h.hid]; exact List.mem_cons_self ..
  have al : ∀ {a}, Cf.Alive { c with hid := c1.hid } a → c.Alive a := fun {a} z => by
    rcases z with m | m
    · exact Or.inl (by rw [h.hid]; exact List.mem_cons_of_mem _ m)
    · exact Or.inr m
  have keep : ∀ a o, ¬ c.Alive a → c.hp a = some o → ¬ Cf.Alive { c with hid := c1.hid } a ∧ c.hp a = some o := fun a o n e => ⟨fun z => n (al z), e⟩
  have u : Up c { c with hid := c1.hid } := ⟨⟨[], by simp⟩, keep, fun _ e => e⟩
  obtain ⟨us, h1, h2⟩ := h.acc
  refine ⟨⟨h.al, fun a o n e => ⟨fun z => (h.up.keep a o n e).1 (al z), (h.up.keep a o n e).2⟩, h.up.dom, rfl, h.kh⟩, ⟨fun a m z => h.s.dj a m (by rw [h.hid]; exact List.mem_cons_of_mem _ z), fun a m => h.s.hd a (by rw [h.hid]; exact List.mem_cons_of_mem _ m), h.s.len, h.s.nd, h.s.al, fun i a o e1 e2 => ?_⟩, ?_⟩
  · have := h.s.ob i a o e1 e2
    cases o with
    | dead => trivial
    | lst xs =>
      obtain ⟨vs, p, q⟩ := this
      exact ⟨vs, p, paired_imp (fun _ _ r => u.rv r) q⟩
    | dk kvs =>
      obtain ⟨vs, p, q⟩ := this
      exact ⟨vs, p, paired_imp (fun _ _ r => ⟨r.1, u.rv r.2⟩) q⟩
    | dt kvs =>
      obtain ⟨vs, p, q⟩ := this
      exact ⟨vs, p, paired_imp (fun _ _ r => ⟨r.1, u.rv r.2⟩) q⟩
    | ins C fs =>
      obtain ⟨dx, vs, p, q⟩ := this
      exact ⟨dx, vs, p, paired_imp (fun _ _ r => ⟨r.1, u.rv r.2⟩) q⟩
    | exc cls fs =>
      obtain ⟨d, vs, p, nx, x, q⟩ := this
      exact ⟨d, vs, p, (xdict_keep (K := K) u.keep nx x).1, (xdict_keep (K := K) u.keep nx x).2, paired_imp (fun _ _ r => ⟨r.1, u.rv r.2⟩) q⟩
  · refine .lst ?_ h1 (DtA.mono keep _ _ h2)
    rintro (m | ⟨i, o, e1, e2, e3⟩)
    · exact h.up.dom D |> fun _ => by
        have := h.kh D m
        rw [h1, hD1] at this
        cases this
    · exact h.s.dj D (List.mem_of_getElem? e1) hD
theorem take_get {α : Type} {xs : List α} {i : Nat} {x : α} (h : xs[i]? = some x) : xs.take (i + 1) = xs.take i ++ [x] := by
  rw [List.take_succ, h]
  rfl
/-- [te for g in wi if tt], the store as it was -/
theorem ev_lc {wi : TI} {g : TG} {tt : TT} {vs : List Nat} {xs : List AV} (f : AV → Option PyData) (hi : Ei K wi sl st xs) (hn : xs.length ≤ 1000000) (hx : ∀ x ∈ xs, Lc K g tt te vs sl st x (f x)) : Ev K (tLc wi g tt te vs) sl st (dL (xs.filterMap f)) := fun c σ e s S Q q =>
  hi c σ e s S _ fun J c1 t1 s1 e1 w => fun D hD => by
  refine ⟨fun i m H => m = xs.length - i ∧ i ≤ xs.length ∧ ∃ c2, c2.hp = H ∧ c2.st = st ∧ Hid K c1 D c2 ((xs.take i).filterMap f), ⟨_, rfl, Nat.zero_le _, _, rfl, e1, hid_start s1 hD⟩, ?_⟩
  rintro i m H ⟨rfl, hle, c2, rfl, e2, hd⟩
  by_cases hlt : i < xs.length
  · refine Or.inr ⟨w.go c2 i hd.up hd.s hlt, fun H' => (i + 1) ≤ xs.length ∧ ∃ c3, c3.hp = H' ∧ c3.st = st ∧ Hid K c1 D c3 ((xs.take (i + 1)).filterMap f), fun H' ⟨h1, h2⟩ => ⟨_, by omega, rfl, h1, h2⟩, fun v H' hy => ?_⟩
    have hx1 : xs[i]? = some xs[i] := List.getElem?_eq_getElem hlt
    obtain ⟨c3, rfl, e3, t3, s3, r3⟩ := w.yld c2 i _ v H' hd.up hd.s hx1 hy
    have hd3 := hid_tr hd t3 s3
    obtain ⟨sl', js, hjs, hg, hr⟩ := hx xs[i] (List.getElem_mem hlt)
    have S3 : SS K c3 (wipe σ vs) (wipeS sl vs) := ss_wipe (hd3.up.ss (t1.ss S)) vs
    refine hg c3 _ v s3 S3 r3 _ fun σ' S' hw => ⟨(hw vs hjs).trans wipe_wipe, ?_⟩
    rw [take_get hx1, List.filterMap_append]
    cases hf : f xs[i] with
    | none =>
      rw [hf] at hr
      refine hr c3 σ' (e3.trans e2) s3 S' _ fun c4 t4 s4 e4 => ?_
      rw [if_neg (by decide)]
      refine ⟨hlt, c4, rfl, e4, ?_⟩
      have : List.filterMap f [xs[i]] = [] := by simp [hf]
      rw [this, List.append_nil]
      exact hid_tr hd3 t4 s4
    | some y =>
      rw [hf] at hr
      refine hr.1 c3 σ' (e3.trans e2) s3 S' _ fun c4 t4 s4 e4 => ?_
      rw [if_pos rfl]
      refine hr.2 c4 σ' e4 s4 (t4.ss S') _ fun u c5 t5 s5 e5 r5 => ?_
      have hd5 := hid_tr (hid_tr hd3 t4 s4) t5 s5
      obtain ⟨us, h1, h2, h3⟩ := hid_push hd5 hD r5
      refine ⟨us, h1, ?_, hlt, { c5 with hp := upd c5.hp D (.lst (us ++ [u])) }, rfl, e5, ?_⟩
      · rw [h2]
        have l1 : ((xs.take i).filterMap f).length ≤ (xs.take i).length := List.length_filterMap_le ..
        rw [List.length_take] at l1
        have : sizeLine = 16777216 := sizeLine_eq
        omega
      · have : List.filterMap f [xs[i]] = [y] := by simp [hf]
        rw [this]
        exact h3
  · have : i = xs.length := by omega
    subst this
    rw [List.take_length] at hd
    obtain ⟨t, s', r⟩ := hid_end hd hD
    exact Or.inl ⟨w.stop c2 hd.up hd.s, q _ { c2 with hid := c1.hid } (t1.trans t) s' e2 r⟩
/-- [te for g in wi] -/
theorem ev_lcM {wi : TI} {g : TG} {vs : List Nat} {xs : List AV} (f : AV → PyData) (hi : Ei K wi sl st xs) (hn : xs.length ≤ 1000000) (hx : ∀ x ∈ xs, ∃ sl' js, (∀ j ∈ js, j ∈ vs) ∧ Eg K g (wipeS sl vs) x sl' js ∧ Ev K te sl' st (.d (f x))) : Ev K (tLc wi g tYes te vs) sl st (dL (xs.map f)) := by
  have := ev_lc (K := K) (sl := sl) (st := st) (te := te) (g := g) (tt := tYes) (vs := vs) (fun x => some (f x)) hi hn fun x hm => by
    obtain ⟨sl', js, h1, h2, h3⟩ := hx x hm
    exact ⟨sl', js, h1, h2, fun c σ e s S Q q => q c (Tr.refl c) s e, h3⟩
  have e : xs.filterMap (fun x => some (f x)) = xs.map f := by
    induction xs with
    | nil => rfl
    | cons x xs ih => simp
  rwa [e] at this
/-- [te for g in wi], the store changing -/
theorem wx_lc {wi : TI} {g : TG} {vs : List Nat} {Φ : AV → Sto → Prop} (hi : Wi K b wi sl st fun xs st1 => xs.length ≤ 1000000 ∧ ∃ P : Nat → List PyData → Sto → Prop, P 0 [] st1 ∧
    (∀ i x acc st2, xs[i]? = some x → P i acc st2 → acc.length ≤ i → ∃ sl' js, (∀ j ∈ js, j ∈ vs) ∧ Eg K g (wipeS sl vs) x sl' js ∧ ∀ b', Wx K b' te sl' st2 fun y st3 => ∃ d, y = .d d ∧ P (i + 1) (acc ++ [d]) st3) ∧
    (∀ acc st2, P xs.length acc st2 → Φ (dL acc) st2)) : Wx K b (tLc wi g tYes te vs) sl st Φ := fun c σ e tb s S Q q =>
  hi c σ e tb s S _ fun J c1 xs t1 s1 w ⟨hn, P, h0, hs, he⟩ => fun D hD => by
  refine ⟨fun i m H => m = xs.length - i ∧ i ≤ xs.length ∧ ∃ c2 acc, c2.hp = H ∧ P i acc c2.st ∧ acc.length ≤ i ∧ Hid K c1 D c2 acc, ⟨_, rfl, Nat.zero_le _, _, [], rfl, h0, Nat.le_refl _, hid_start s1 hD⟩, ?_⟩
  rintro i m H ⟨rfl, hle, c2, acc, rfl, hp, hl, hd⟩
  by_cases hlt : i < xs.length
  · refine Or.inr ⟨w.go c2 i hd.up hd.s hlt, fun H' => (i + 1) ≤ xs.length ∧ ∃ c3 acc', c3.hp = H' ∧ P (i + 1) acc' c3.st ∧ acc'.length ≤ i + 1 ∧ Hid K c1 D c3 acc', fun H' ⟨h1, h2⟩ => ⟨_, by omega, rfl, h1, h2⟩, fun v H' hy => ?_⟩
    have hx1 : xs[i]? = some xs[i] := List.getElem?_eq_getElem hlt
    obtain ⟨c3, rfl, e3, t3, s3, r3⟩ := w.yld c2 i _ v H' hd.up hd.s hx1 hy
    have hd3 := hid_tr hd t3 s3
    obtain ⟨sl', js, hjs, hg, hr⟩ := hs i _ acc c2.st hx1 hp hl
    have S3 : SS K c3 (wipe σ vs) (wipeS sl vs) := ss_wipe (hd3.up.ss (t1.ss S)) vs
    refine hg c3 _ v s3 S3 r3 _ fun σ' S' hw => ⟨(hw vs hjs).trans wipe_wipe, ?_⟩
    show te σ' c3.hp _
    refine hr c3 c3 σ' e3 (Tr.refl c3) s3 S' _ fun u c5 y t5 s5 r5 ⟨d, e5, k5⟩ => ?_
    subst e5
    have hd5 := hid_tr hd3 t5 s5
    obtain ⟨us, h1, h2, h3⟩ := hid_push hd5 hD r5
    refine ⟨us, h1, ?_, hlt, { c5 with hp := upd c5.hp D (.lst (us ++ [u])) }, acc ++ [d], rfl, k5, by rw [List.length_append, List.length_singleton]; omega, h3⟩
    rw [h2]
    have : sizeLine = 16777216 := sizeLine_eq
    omega
  · have : i = xs.length := by omega
    subst this
    obtain ⟨t, s', r⟩ := hid_end hd hD
    exact Or.inl ⟨w.stop c2 hd.up hd.s, q _ { c2 with hid := c1.hid } (dL acc) (t1.trans t) s' r (he _ _ hp)⟩
/-! ### loops -/
theorem ws_for {wi : TI} {g : TG} {tb : TS} {e : DE} (hi : Wi K b wi sl st fun xs st1 => ∃ P : Nat → Sl → Sto → Prop, P 0 sl st1 ∧
    (∀ i x sl1 st2, xs[i]? = some x → P i sl1 st2 → ∃ sl2 js, Eg K g sl1 x sl2 js ∧ Ws K b tb sl2 st2 { e with nx := P (i + 1), ct := P (i + 1), bk := e.nx }) ∧
    (∀ sl1 st2, P xs.length sl1 st2 → e.nx sl1 st2)) : Ws K b (tFor wi g tb) sl st e := fun b' hb D d c σ ec tr s S =>
  hi c σ ec (hb.trans tr) s S _ fun J c1 xs t1 s1 w ⟨P, h0, hs, he⟩ => by
  refine ⟨fun i m σ H => m = xs.length - i ∧ i ≤ xs.length ∧ ∃ c2 sl1, c2.hp = H ∧ Tr c1 c2 ∧ SR K c2 ∧ SS K c2 σ sl1 ∧ P i sl1 c2.st, ⟨_, rfl, Nat.zero_le _, c1, sl, rfl, Tr.refl c1, s1, t1.ss S, h0⟩, ?_⟩
  rintro i m σ H ⟨rfl, hle, c2, sl1, rfl, t2, s2, S2, hp⟩
  by_cases hlt : i < xs.length
  · refine Or.inr ⟨w.go c2 i t2.up s2 hlt, fun σ' H' => (i + 1) ≤ xs.length ∧ ∃ c3 sl1, c3.hp = H' ∧ Tr c1 c3 ∧ SR K c3 ∧ SS K c3 σ' sl1 ∧ P (i + 1) sl1 c3.st, fun σ' H' ⟨h1, h2⟩ => ⟨_, by omega, rfl, h1, h2⟩, fun v H' hy => ?_⟩
    have hx1 : xs[i]? = some xs[i] := List.getElem?_eq_getElem hlt
    obtain ⟨c3, rfl, e3, t3, s3, r3⟩ := w.yld c2 i _ v H' t2.up s2 hx1 hy
    obtain ⟨sl2, js, hg, hr⟩ := hs i _ sl1 c2.st hx1 hp
    refine hg c3 σ v s3 (t3.ss S2) r3 _ fun σ' S' _ => ?_
    refine hr c1 (hb.trans (tr.trans t1)) _ ?_ c3 σ' e3 (t2.trans t3) s3 S'
    have B : Tr b' c1 := tr.trans t1
    exact ⟨fun c4 σ4 sl4 t4 s4 S4 k => ⟨hlt, c4, sl4, rfl, t4, s4, S4, k⟩, fun c4 v x t4 => d.rt c4 v x (B.trans t4), fun c4 σ4 sl4 t4 => d.nx c4 σ4 sl4 (B.trans t4), fun c4 σ4 sl4 t4 s4 S4 k => ⟨hlt, c4, sl4, rfl, t4, s4, S4, k⟩⟩
  · have : i = xs.length := by omega
    subst this
    exact Or.inl ⟨w.stop c2 t2.up s2, d.nx c2 σ sl1 ((tr.trans t1).trans t2) s2 S2 (he _ _ hp)⟩
end
end AL

set_option Elab.async false
set_option linter.all false
set_option maxRecDepth 100000
set_option maxHeartbeats 4000000
/-! AL7: defs on data and names. -/
namespace AL
open PySem PySem.Spec PyProof.Rows L2
def startS (N : List Str) (xs : List AV) : Sl := xs.map some ++ List.replicate (N.length - xs.length) none
theorem ss_start {K : PySem.W.Frag} {c : Cf} {N : List Str} {vs : List V} {xs : List AV} (r : Rvs K c vs xs) : SS K c (L2.start N vs) (startS N xs) := by
  have hl : vs.length = xs.length := r.length
  refine ⟨by unfold L2.start startS; simp [hl], fun i x e => ?_⟩
  unfold startS at e
  unfold L2.start
  by_cases hi : i < xs.length
  · rw [List.getElem?_append_left (by simpa using hi)] at e
    rw [List.getElem?_append_left (by simpa [hl] using hi)]
    have g : ∀ {vs : List V} {xs : List AV} (j : Nat), Rvs K c vs xs → (xs.map some)[j]? = some (some x) → ∃ v, (vs.map some)[j]? = some (some v) ∧ Rv K c v x := by
      intro vs xs j r
      induction r generalizing j with
      | nil => intro h; simp at h
      | cons r _ ih =>
        intro h
        cases j with
        | zero =>
          have h : some (some _) = some (some x) := h
          cases h
          exact ⟨_, rfl, r⟩
        | succ j => exact ih j h
    exact g i r e
  · rw [List.getElem?_append_right (by simpa using Nat.le_of_not_lt hi)] at e
    simp at e
    rw [List.getElem?_replicate] at e
    split at e <;> cases e
section
variable {P : Program} {w : World} {K : PySem.W.Frag} {mg : Str → Option Value} {base : Heap} {x qual : Str} {params : Arguments} {body : List Stmt} {scope : Scope} {dvs : List V} {kws : List (Str × V)} {f C : Addr} {fd : FuncData} {N ps : List Str} {k : Nat}
/-- a def keeps its promise on data and names -/
theorem fn_D {F : DS} (FD : FunD K x qual params body scope dvs kws f fd) (S : FnScope N ps scope) (len : ∀ xs st Φ Ψ, F xs st Φ Ψ → xs.length = ps.length)
    (hb : ∀ (cdv : Value) (A : Around) (outer : List Env) (s : Shared) (H : Hp) (E : XK), Room k (A.deeper (envOfC qual scope s.heap.objs.size f cdv)) →
      ∃ t, PSs (bodyCx P w K mg base N qual scope f cdv A outer s H E) body t ∧ ∀ (b : Cf) xs st Φ Ψ, F xs st Φ Ψ → ErrOk K b (fun cls d _ H => E cls d H) (fun _ e st => Ψ e st) → Ws K b t (startS N xs) st { nx := fun _ st' => Φ dN st', rt := Φ }) : FnOk P w K mg base (L2.CX P w) (k + 1) f fd ps (spD K F) := by
  refine FD.ok S (fun vs H Q E h => ?_) (fun cdv A outer s H vs Q E hr h => ?_)
  · obtain ⟨c, xs, Φ, Ψ, _, _, r, hf, _⟩ := h
    exact (show vs.length = xs.length from r.length).trans (len _ _ _ _ hf)
  · obtain ⟨c, xs, Φ, Ψ, rfl, s0, r, hf, hq, he⟩ := h
    obtain ⟨t, pt, ht⟩ := hb cdv A outer s c.hp E hr
    refine ⟨t, pt, ht c xs c.st Φ Ψ hf (fun cls d c' σ sl e t' s' S' er k => he cls d c' e t' s' er k) c (Tr.refl c) _ ⟨fun c' σ sl t' s' S' k => hq .non c' dN t' s' .non k, fun c' v x t' s' r k => hq v c' x t' s' r k, fun c' σ sl _ _ _ k => k.elim, fun c' σ sl _ _ _ k => k.elim⟩ c _ rfl (Tr.refl c) s0 (ss_start r)⟩
end
/-- a def of the module, by its name -/
abbrev DefD (P : Program) (w : World) (K : PySem.W.Frag) (mg : Str → Option Value) (base : Heap) (k : Nat) (x : Str) (dvs : List V) (F : DS) : Prop := DefOk P w K mg base k x dvs (spD K F)
/-- pure: f of the arguments under C -/
def pureD (n : Nat) (R : List PyData → PyData → Prop) : DS := fun xs st Φ _ => ∃ ds y, xs = ds.map AV.d ∧ ds.length = n ∧ R ds y ∧ Φ (.d y) st
end AL

set_option Elab.async false
set_option linter.all false
set_option maxRecDepth 100000
set_option maxHeartbeats 4000000
/-! AL8: try .. except C as n: .., where the exception may be kept beyond the suite; its class and its fields read there. -/
namespace AL
open PySem PySem.W PySem.Spec PySem.Calls PyProof.Rows
section
variable {prog : Program} {w : World} {A : Around} {E : Value → Shared → Prop} {s : Shared} {K : Frag} {x D : Addr} {ox : Obj} {od : Option Obj}
theorem findObj_dataO {C : Addr} {name : Str} {a g : Value} (hc : (clsIn K C).isSome = true) (ha : findIn K (.ref C) name = some (some a)) (hg : specialIn K a "__get__" = some (some g)) (ht : takesIn K a = some true) : findObj K C od name = some (.bind g a) := by
  obtain ⟨cd, hc⟩ := Option.isSome_iff_exists.mp hc
  unfold findObj
  rw [hc, Option.bind_some, ha, Option.bind_some]
  simp [hg, ht]
theorem kin_classO {Q : Option Value → Shared → Prop} (hga : findIn K (.ref D) "__getattribute__" = some (some (.builtin "BaseException.__getattribute__"))) (hgt : findIn K (.ref D) "__getattr__" = some none) (hsub : subIn K (.ref D) (.type "BaseException") = some true)
    (hdct : hasDictIn K D = true) (ha : findIn K (.ref D) "__class__" = some (some (.builtin "object.__class__")))
    (hn : specialIn K (.builtin "object.__class__") "__get__" = some (some (.builtin "getset_descriptor.__get__"))) (htk : takesIn K (.builtin "object.__class__") = some true) (hm : mroIn K D (.type "object") = some true)
    (X : K.In s.heap) (I : InstAt s.heap x ox D od) (h : Q (some (.ref D)) { s with toks := s.toks + 1 }) : wpAny (model prog w) A (getAttr? (.ref x) "__class__") Q E s := by
  have hf : findObj K D od "__class__" = some (.bind (.builtin "getset_descriptor.__get__") (.builtin "object.__class__")) := findObj_dataO (by obtain ⟨cd, hc, _⟩ := any_some hdct; rw [hc]; rfl) ha hn htk
  obtain ⟨hp, g, d, t, os⟩ := s
  have L0 := I.type (M := model prog w)
  have L1 := looks_findIn (M := model prog w) X hga
  have L2 := looks_findIn (M := model prog w) X hgt
  have L3 := looks_find (M := model prog w) X I hf
  have sub : Looks (model prog w) hp (isInstance (.ref x) (.type "BaseException")) true := L0.andThen (looks_subIn X hsub)
  have hx0 : (false && onTheHeap (Value.builtin "BaseException.__getattribute__")) = false := rfl
  have hx2 : (Value.builtin "BaseException.__getattribute__" == Value.builtin "object.__getattribute__") = false := by decide +kernel
  have hx1 : (onTheHeap (Value.ref D) && Value.builtin "BaseException.__getattribute__" == Value.builtin "object.__getattribute__") = false := by rw [hx2]; rfl
  unfold getAttr? getAttrBy? getAttrBy
  refine wpAny_bind (wpAny_mkText (wpAny_bind (wpAny_attempt (wpAny_holding (wpAny_bind (L0.at (wpAny_bind (L1.at ?_))))))))
  show wpAny _ _ (if (onTheHeap (Value.ref D) && Value.builtin "BaseException.__getattribute__" == Value.builtin "object.__getattribute__") = true then _ else _) _ _ _
  rw [hx1, if_neg Bool.false_ne_true]
  unfold getAttrByItsOwn hookBefore
  refine wpAny_bind ?_
  rw [if_pos (show onTheHeap (Value.ref D) = true from rfl)]
  refine L2.at ?_
  refine wpAny_bind (wpAny_attempt (wpAny_holding ?_))
  unfold callGetattribute
  rw [hx0, if_neg Bool.false_ne_true]
  unfold boundAndCalled
  rw [PySem.F.excAttr_ValueError.ga.bind (.ref x)]
  refine wpAny_bind (wpAny_pure ?_)
  show wpAny _ _ (call (.builtin "BaseException.__getattribute__") [.ref x, .str "__class__" t]) _ _ _
  refine wpAny_call (codeAny_call_builtin PySem.F.excAttr_ValueError.ga.plain PySem.F.entry_bexc_ga ?_)
  refine @check_slot (model prog w) _ _ ⟨hp, g, d, t + 1, os⟩ "BaseException.__getattribute__" "BaseException" "__getattribute__" (.ref x) [.str "__class__" t] [] _ (by decide +kernel) (by decide +kernel) sub (PySem.F.args_bexc_ga (.ref x) (.str "__class__" t)) ?_
  unfold Builtin.«object.__getattribute__»
  refine wpAny_bind (wpAny_of_eq (a := ((Value.ref x : Value), [Value.str "__class__" t])) (by first | rfl | (simp only [slotArgs]; rfl)) ?_)
  refine wpAny_bind (wpAny_pure (wpAny_bind (L0.at (wpAny_bind (L3.at ?_)))))
  show wpAny _ _ (holding [Value.builtin "object.__class__"] (call (.builtin "getset_descriptor.__get__") [.builtin "object.__class__", .ref x, .ref D]) >>= ret) _ _ _
  refine wpAny_bind (wpAny_holding (wpAny_call (class_get (s := ⟨hp, g, d, t + 1, os⟩) (ox := ox) (od := od) X I hm ?_)))
  refine wpAny_pure ?_
  show wpAny _ _ (handedOut (.ref D)) _ _ _
  rw [handedOut_of (v := .ref D) rfl]
  first
    | exact wpAny_pure (wpAny_pure h)
    | exact wpAny_pure h
    | exact wpAny_pure (wpAny_bind (wpAny_pure (wpAny_pure h)))
theorem kitx_excO (hga : findIn K (.ref D) "__getattribute__" = some (some (.builtin "BaseException.__getattribute__"))) (hgt : findIn K (.ref D) "__getattr__" = some none) (hsub : subIn K (.ref D) (.type "BaseException") = some true) (hdct : hasDictIn K D = true) (ha : findIn K (.ref D) "__class__" = some (some (.builtin "object.__class__")))
    (hn : specialIn K (.builtin "object.__class__") "__get__" = some (some (.builtin "getset_descriptor.__get__"))) (htk : takesIn K (.builtin "object.__class__") = some true) (hm : mroIn K D (.type "object") = some true) :
    KitX K (.ref x) (.ref D) (fun h => InstAt h x ox D od) where
  ty := fun _ _ _ I => I.type
  it := fun _ _ X _ => by
    obtain ⟨cdD, hcD, _⟩ := any_some hdct
    unfold clsIn at hcD
    split at hcD
    · rename_i c' d' cd' sl' ho
      intro A' Q' E' s' k q
      unfold isType loadHead
      exact wpAny_bind (wpAny_loadPart (k _ _ (X _ _ ho)) (wpAny_pure q))
    · cases hcD
  ne := fun h tp dd its n sl X htp => by
    obtain ⟨cdD, hcD, _⟩ := any_some hdct
    refine Bool.eq_false_iff.mpr fun q => ?_
    have e : D = tp := Value.ref.inj (beq_iff_eq.mp q)
    subst e
    unfold clsIn at hcD
    split at hcD
    · rename_i c' d' cd' sl' ho
      have z := (X _ _ ho).symm.trans htp
      cases z
    · cases hcD
  ca := fun X I k => kin_classO hga hgt hsub hdct ha hn htk hm X I k
end
end AL
namespace AL
open PySem PySem.Spec PyProof.Rows L2
theorem exk_ok {P : Program} {w : World} {H : Hp} {h : Heap} {a : Addr} {cls : Value} {d : Option Addr} {oe : Obj} {vs : Array Value} (e : h.get? a = some oe) (z : Zc cls d oe) (hd : oe.data = .fields vs) : ObjOk P w H h a (exk a cls d) :=
  ⟨⟨oe, vs, e, z, hd⟩, ⟨oe, e⟩, fun _ _ ⟨o, v, q, r⟩ k => ⟨o, v, k o q, r⟩⟩
section
variable {X : Cx} {pins : List (Addr × Obj)} {σ : L2.St} {H : Hp} {s : Shared}
/-- a pinned object that is younger than the entry becomes a tracked one -/
theorem inv_track {a : Addr} {oe : Obj} {o : HO} (I : Inv X ((a, oe) :: pins) σ H s) (h0 : X.s_0.heap.get? a = none) (hp : ∀ p ∈ X.pn ++ pins, p.1 ≠ a) (hc : ∀ x c, X.env.cells.lookup x = some c → c ≠ a) (new : ObjOk X.prog X.w (upd H a o) s.heap a o) :
    Inv X pins σ (upd H a o) s := by
  obtain ⟨e, hn, nL, nF, _⟩ := I.pin (a, oe) (List.mem_append_right _ (List.mem_cons_self ..))
  have hn : H a = none := hn
  have ne0 : ∀ b u, X.s_0.heap.get? b = some u → b ≠ a := fun b u q z => by
    rw [z, h0] at q; cases q
  refine ⟨I.ok, I.os, I.bare, ⟨I.base.keep, I.base.slot, fun b u q n hx => ?_, I.base.there, fun b xs q => ?_, fun b u v q => ?_, fun b ps q => ?_⟩, I.loc, I.cell, ?_, fun x c q => ?_, fun p hm => ?_, ?_, I.len⟩
  · rw [upd_ne (ne0 b u q)]
    exact I.base.free b u q n hx
  · have z := I.base.tups b xs q
    rw [upd_ne (ne_of_none z hn)]
    exact z
  · have z := I.base.frzs b u v q
    rw [upd_ne (ne_of_none z hn)]
    exact z
  · obtain ⟨m, z⟩ := I.base.tbls b ps q
    exact ⟨m, by rw [upd_ne (ne_of_none z hn)]; exact z⟩
  · rw [upd_ne (Ne.symm nL)]
    exact I.free
  · rw [upd_ne (hc x c q)]
    exact I.freeC x c q
  · have hm' : p ∈ X.pn ++ ((a, oe) :: pins) := by
      rcases List.mem_append.mp hm with h | h
      · exact List.mem_append_left _ h
      · exact List.mem_append_right _ (List.mem_cons_of_mem _ h)
    obtain ⟨p1, p2, p3⟩ := I.pin p hm'
    exact ⟨p1, by rw [upd_ne (hp p hm)]; exact p2, p3⟩
  · exact HOk.laidN I.hok (fun _ _ z => z) hn new
theorem inv_unsuite {a : Addr} {oe : Obj} {pn' : List (Addr × Obj)} (I : Inv (X.suite a ((a, oe) :: (X.pn ++ pins))) pn' σ H s) (ok : X.Ok) : Inv X ((a, oe) :: pins) σ H s :=
  ⟨ok, I.os, I.bare, I.base, I.loc, I.cell, I.free, I.freeC, fun p hp => I.pin p (by
    refine List.mem_append_left _ ?_
    rcases List.mem_append.mp hp with h | h
    · exact List.mem_cons_of_mem _ (List.mem_append_left _ h)
    · rcases List.mem_cons.mp h with h | h
      · rw [h]; exact List.mem_cons_self ..
      · exact List.mem_cons_of_mem _ (List.mem_append_right _ h)), I.hok, I.len⟩
end
/-- what 'except c as n' wishes of an exception of the body (slot i is n's); behind the suite the exception stands tracked -/
def wAsK (K : PySem.W.Frag) (c : Value) (i : Nat) (ts : Addr → Value → Option Addr → TS) (Wout : WX) (D : Ends) : WX := fun cls d σ H =>
  ∃ b, PySem.W.exmOne K cls c = some b ∧ (b = true → ∀ a, H a = none → ts a cls d { nx := fun σ' H' => D.nx (σ'.set i none) (upd H' a (exk a cls d)), rt := fun v H' => D.rt v (upd H' a (exk a cls d)), bk := fun σ' H' => D.bk (σ'.set i none) (upd H' a (exk a cls d)), ct := fun σ' H' => D.ct (σ'.set i none) (upd H' a (exk a cls d)) } (σ.set i (some (.ref a))) H) ∧
    (b = false → Wout cls d σ H)
section
variable {X : Cx} {x n : Str} {c : Value} {i : Nat} {body suite : List Stmt} {b₀ : Stmt} {np pos pos' : Pos} {tb : WX → TS} {ts : Addr → Value → Option Addr → TS} {Wout : WX}
theorem ps_try_keep (hs : X.stack = X.env :: X.outer) (hf : X.env.frame = some X.env.locals) (hN : X.N.Nodup) (hi : X.N[i]? = some n) (hln : X.env.kindOf n = some .local) (hc : Names X x c) (tk : Takes X Wout) (hex : X.ex = [])
    (hb : ∀ (W : WX) (pn : List (Addr × Obj)) (xe : Value → Shared → Prop), Takes (X.tr pn xe) W → PassesOwn (model X.prog X.w) X.A X.env xe → PSs (X.tr pn xe) body (tb W))
    (hsu : ∀ (a : Addr) (oe : Obj) (cls : Value) (d : Option Addr) (pn : List (Addr × Obj)), Zc cls d oe → (∃ vs, oe.data = .fields vs) → PSs (X.suite a ((a, oe) :: pn)) (b₀ :: suite) (ts a cls d)) :
    PS X (.Try body [.ExceptHandler (some (.Name x np)) (some n) (b₀ :: suite) pos'] [] [] pos) (fun D σ H => tb (wAsK X.K c i ts Wout D) D σ H) := by
  refine ⟨fun pins s σ H D I h => ?_⟩
  have ok := I.ok
  have hfr : X.A.frames = some (X.env :: X.outer) := by rw [ok.frames, hs]
  have hloc : Loc X.env.scope n := .inl hln
  refine wpAny_Try_except ?_
  refine wpAny_mono ((hb (wAsK X.K c i ts Wout D) (X.pn ++ pins) (fun e s₁ => wpAny (model X.prog X.w) X.A (noteFrame e X.env) (fun _ s₂ => wpAny (model X.prog X.w) X.A (setFlight e none) (fun _ s₃ =>
    wpAny (model X.prog X.w) X.A (handleBy e X.env [.ExceptHandler (some (.Name x np)) (some n) (b₀ :: suite) pos']) (SP X pins D) X.xe s₃) X.xe s₂) X.xe s₁) (fun u s' xx => ?_) PassesOwn.looking).run [] s σ H D (I.toTry _) h) (fun f s1 hsp => ?_) (fun e s1 he => he)
  · obtain ⟨a, B, sI, pins', σ', H', cls, d, rfl, J', nb, up, sky, na, os, ag, b, hb1, hyes, hno⟩ := xx
    have J : Inv X pins σ' H' sI := J'.ofTry ok
    have sky' : Sky B (X.env :: X.outer) a (Zc cls d) X.env.locals s'.heap := by rw [← hs]; exact sky
    have Ba : B.get? a = none := by
      rcases sky' with z | z | z
      · exact z.2.1
      · exact z.2.1
      · exact z.2.1
    show wpAny (model X.prog X.w) X.A (noteFrame (.ref a) X.env) _ _ _
    refine Sky.land Zc.steady hfr hf sky' fun h3 fl3 up3 => ?_
    have J3 : Inv X pins σ' H' { s' with heap := h3 } := J.landed nb fl3.1 (up.trans up3) os ag
    obtain ⟨oe3, vs3, he3, hz3, hd3⟩ := fl3.there
    have nfr : a ∉ frs (X.env :: X.outer) := fun hm => by
      obtain ⟨_, o', e', hnf⟩ := fl3.2.2.1.mem hm
      rw [he3] at e'; cases e'
      exact hnf _ hd3
    have sIa : sI.heap.get? a = none := by
      cases q : sI.heap.get? a with
      | none => rfl
      | some o =>
        have := nb a o q (by rw [hs]; exact nfr)
        rw [Ba] at this
        cases this
    have s0a : X.s_0.heap.get? a = none := by
      cases q : X.s_0.heap.get? a with
      | none => rfl
      | some o =>
        obtain ⟨o', z⟩ := J.base.there a o q (by rw [hex]; exact fun z => nomatch z)
        rw [sIa] at z
        cases z
    have nL : a ≠ X.env.locals := fun z => nfr (List.mem_filterMap.mpr ⟨X.env, List.mem_cons_self, by rw [hf, z]⟩)
    have nF : a ∉ X.fs := fun hm => by
      obtain ⟨e, he, q⟩ := List.mem_filterMap.mp hm
      exact nfr (List.mem_filterMap.mpr ⟨e, List.mem_cons_of_mem _ he, q⟩)
    have nP : ∀ p ∈ X.pn ++ pins, p.1 ≠ a := fun p hp z => by
      have := (J.pin p hp).1
      rw [z, sIa] at this
      cases this
    have nC : ∀ y k, X.env.cells.lookup y = some k → k ≠ a := fun y k q z => by
      obtain ⟨v, o, ho, _⟩ := J.cell y k q
      rw [z, sIa] at ho
      cases ho
    have S3 := J3.suite he3 hd3 na nL nF
    refine wpAny_handleBy_cons (codeAny_handlers_test ?_) (by intro q; cases q)
    have LT : PySem.W.Looks (model X.prog X.w) h3 (typeOf (.ref a)) cls := fun A Q E s k q => wpAny_typeOf_ref (k _ _ he3) (by rw [hz3.1]; exact q)
    have LM := PySem.W.exm_one (M := model X.prog X.w) (J3.kIn) LT hb1
    have test : ∀ {Q : Value → Shared → Prop} {E : Value → Shared → Prop}, Q c { s' with heap := h3 } → wpAny (model X.prog X.w) (X.A.mark (some (.ref a))) (eval (.Name x np) X.env) Q E { s' with heap := h3 } := fun {Q E} q => by
      obtain ⟨hg, hdbg, hm | ⟨hm, hv, hnn⟩⟩ := hc
      · exact ld_glob (X := X.suite a ((a, oe3) :: (X.pn ++ pins))) S3 hg hm q hdbg
      · exact ld_blt (X := X.suite a ((a, oe3) :: (X.pn ++ pins))) S3 hg hm hv q hnn hdbg
    refine test (LM.here ?_)
    cases b with
    | true =>
      refine codeAny_handlers_suite_as ?_
      refine HandSPX.lands_againZ fl3 fun h4 fl4 up4 => ?_
      have J4 : Inv X pins σ' H' { s' with heap := h4 } := J.landed nb fl4.1 ((up.trans up3).trans up4) os ag
      obtain ⟨oe4, vs4, he4, hz4, hd4⟩ := fl4.there
      have S4 := J4.suite he4 hd4 na nL nF
      refine store_ok (X := X.suite a ((a, oe4) :: (X.pn ++ pins))) (v := .ref a) S4 hN hi hloc rfl (fun s5 S5 => ?_) (.inr hln)
      refine wpAny_mono ((hsu a oe4 cls d (X.pn ++ pins) hz4 ⟨_, hd4⟩).run [] s5 _ H' _ S5 (hyes rfl a na)) (fun f s6 hsp => ?_) (fun _ _ z => False.elim z)
      have end_ : ∀ {σ6 : L2.St} {H6 : Hp} {Q : Shared → Prop}, Inv (X.suite a ((a, oe4) :: (X.pn ++ pins))) [] σ6 H6 s6 → (∀ s7, Inv X pins (σ6.set i none) (upd H6 a (exk a cls d)) s7 → Q s7) →
          wpAny (model X.prog X.w) X.A (do bindName X.env n .none; unbindBehindTheSuite X.env n pos') (fun _ s7 => Q s7) X.xe s6 := fun {σ6 H6 Q} S6 hq => gone_ok (inv_unsuite S6 ok) hN hi hln fun s7 J7 => hq s7 (by
            have e7 := (J7.pin (a, oe4) (List.mem_append_right _ (List.mem_cons_self ..))).1
            exact inv_track J7 s0a nP nC (exk_ok e7 hz4 hd4))
      cases f with
      | next =>
        obtain ⟨σ6, H6, S6, q6⟩ := hsp
        exact end_ S6 fun s7 J7 => ⟨_, _, J7, q6⟩
      | brk =>
        obtain ⟨σ6, H6, S6, q6⟩ := hsp
        exact end_ S6 fun s7 J7 => ⟨_, _, J7, q6⟩
      | cont =>
        obtain ⟨σ6, H6, S6, q6⟩ := hsp
        exact end_ S6 fun s7 J7 => ⟨_, _, J7, q6⟩
      | ret u =>
        obtain ⟨v6, σ6, H6, S6, r6, q6⟩ := hsp
        exact end_ S6 fun s7 J7 => ⟨_, _, _, J7, r6, q6⟩
    | false =>
      show wpAny _ X.A (handleBy (.ref a) X.env []) _ _ _
      refine wpAny_handleBy_nil ?_
      obtain ⟨k1, k2, k3, oe, vs, T, oT, ts', he, hz, hd, h1, hr⟩ := id fl3
      unfold PySem.passOn
      refine wpAny_bind (wpAny_field he hd h1 ?_)
      rw [if_neg (show ¬ ((Value.ref T == Value.none) = true) from by simp)]
      have fin : wpAny (model X.prog X.w) X.A (setFlight (.ref a) X.env.frame) (fun _ s4 => wpAny (model X.prog X.w) X.A (throw (.ref a) : Sem Flow) (SP X pins D) X.xe s4) X.xe { s' with heap := h3 } := by
        rw [hf]
        refine HandSPX.setFlight_upZ fl3 fun h4 hh4 up4 => wpAny_throw (tk _ _ ?_)
        exact ⟨a, B, sI, pins, σ', H', cls, d, rfl, J, nb, (up.trans up3).trans up4, .inr (.inr (by rw [hs]; exact hh4)), na, os, ag, hno rfl⟩
      first
        | exact wpAny_bind (wpAny_pure (wpAny_bind fin))
        | exact wpAny_bind fin
  · cases f with
    | next =>
      obtain ⟨σ', H', J', q⟩ := hsp
      exact wpAny_execs_nil ⟨σ', H', J'.ofTry ok, q⟩
    | brk =>
      obtain ⟨σ', H', J', q⟩ := hsp
      exact ⟨σ', H', J'.ofTry ok, q⟩
    | cont =>
      obtain ⟨σ', H', J', q⟩ := hsp
      exact ⟨σ', H', J'.ofTry ok, q⟩
    | ret u =>
      obtain ⟨v, σ', H', J', r, q⟩ := hsp
      exact ⟨v, σ', H', J'.ofTry ok, r, q⟩
end
/-! ### a kept exception: its class, its fields -/
section
variable {X : Cx}
theorem exk_at {P : Program} {w : World} {H : Hp} {h : Heap} {a : Addr} {cls : Value} {d : Option Addr} (ok : HOk P w H h) (e : H a = some (exk a cls d)) : ∃ (oe : Obj) (vs : Array Value), h.get? a = some oe ∧ Zc cls d oe ∧ oe.data = .fields vs := by
  have x : ObjOk P w H h a (.ext fun h => ∃ (oe : Obj) (vs : Array Value), h.get? a = some oe ∧ Zc cls d oe ∧ oe.data = .fields vs) := ok a _ e
  exact x.1
theorem exk_inst {pins : List (Addr × Obj)} {σ : L2.St} {H : Hp} {s : Shared} {a D : Addr} {d : Option Addr} {fs : List (Str × V)} (I : Inv X pins σ H s) (e : H a = some (exk a (.ref D) d)) (x : XDict H d fs) :
    ∃ (oe : Obj) (od : Option Obj), PySem.W.InstAt s.heap a oe D od ∧ (∀ dd, d = some dd → ∃ o mA, od = some o ∧ s.heap.Ns1 dd mA ∧ s.heap.get? dd = some o ∧ ∀ f, RelO (fs.lookup f) (mA f)) := by
  obtain ⟨oe, vs, h1, h2, h3⟩ := exk_at I.hok e
  cases d with
  | none =>
    refine ⟨oe, none, ?_, fun dd z => nomatch z⟩
    obtain ⟨oc, od, oda, osl⟩ := oe
    obtain ⟨z1, z2⟩ := h2
    dsimp only at z1 z2 h3
    subst z1 z2 h3
    exact ⟨h1, rfl, rfl, trivial⟩
  | some dd =>
    have hx : ObjOk X.prog X.w H s.heap dd (.xd fs) := I.hok dd _ x
    obtain ⟨mA, hns, hr⟩ := hx
    obtain ⟨o, es, ep, ho, hrest⟩ := id hns
    refine ⟨oe, some o, ?_, fun d' z => by cases z; exact ⟨o, mA, rfl, hns, ho, hr⟩⟩
    obtain ⟨oc, od, oda, osl⟩ := oe
    obtain ⟨z1, z2⟩ := h2
    dsimp only at z1 z2 h3
    subst z1 z2 h3
    exact ⟨h1, rfl, rfl, ho⟩
/-- isinstance(e, C) of a kept exception -/
def rIsX (K : PySem.W.Frag) : List V → Hp → VK → Prop := fun xs H Q => ∃ (a D C : Addr) (d : Option Addr) (fs : List (Str × V)) (b : Bool), xs = [.ref a, .ref C] ∧ H a = some (exk a (.ref D) d) ∧ XDict H d fs ∧ ExcC K D ∧ PySem.W.kitOne K (.ref D) (.ref C) = some b ∧ Q (.bl b) H
theorem call_isX : CallR X (.builtin "isinstance") (rIsX X.K) := by
  intro pins s σ H xs us Q I r h
  obtain ⟨a, D, C, d, fs, b, rfl, ea, x, T, e, q⟩ := h
  obtain ⟨u1, u2, rfl, r1, r2⟩ := vals2 r
  cases r1
  cases r2
  obtain ⟨oe, od, J, _⟩ := exk_inst I ea x
  exact PySem.W.kia_one (kitx_excO T.hg T.hk T.hs T.hd T.ha T.hn T.ht T.hm) I.kIn J e (fun z => nomatch z) fun tk => ⟨.bl b, H, I.kept (t' := tk) fun _ _ z => z, rfl, q⟩
end
end AL

set_option Elab.async false
set_option linter.all false
set_option maxRecDepth 100000
set_option maxHeartbeats 4000000
/-! AL9: an own exception over an own exception: D.__init__(self, ..), self.f = .., raise C(..). -/
namespace AL
open PySem PySem.Spec PyProof.Rows L2
/-- the class D (an own exception class without __init__) gives ValueError's -/
structure DInit (K : PySem.W.Frag) (mg : Str → Option Value) (x : Str) : Prop where
  ex : ∃ (D : Addr) (mc : Value), mg x = some (.ref D) ∧ PySem.W.readsIn K D mc = true ∧ PySem.W.specialIn K (.ref D) "__getattribute__" = some (some (.builtin "type.__getattribute__")) ∧ PySem.W.findCls K (.ref D) mc "__init__" = some (.val (.builtin "ValueError.__init__"))
section
variable {X : Cx} {x : Str} {o e : Expr} {es : List Expr} {to te : TE} {ta : TA} {f : Str} {p p' p1 p2 pos : Pos}
theorem pe_dinit {pl : Sem Bool} (T : DInit X.K X.mg x) (ha : PA X (e :: es) ta) (hg : Gl X x := by rfl) (hdb : (x == ("__debug__" : Str)) = false := by decide)
    (hc : eval (.Call (.Attribute (.Name x p1) "__init__" p2) (e :: es) [] pos) X.env = (do
      let ov ← eval (.Name x p1) X.env
      standAt p2.atName
      let (f, first) ← holding [ov] (getMethod ov "__init__" pl)
      callWith pos f first (backTo pos (starEach (e :: es) X.env)) (backToKw pos (keywordEach [] X.env))) := by rfl)
    (he : starEach (e :: es) X.env = (false, eval e X.env) :: starEach es X.env := by rfl) (hpl : (backTo pos (starEach es X.env)).any (·.1) = false := by rfl) :
    PE X (.Call (.Attribute (.Name x p1) "__init__" p2) (e :: es) [] pos) (tVeI X.K ta) := by
  obtain ⟨D, mc, hm, rd, ga, at_⟩ := T.ex
  refine ⟨fun pins s σ H Q I h => ?_⟩
  refine PySem.W.methodCall_KW (ld_glob I hg hm ?_ hdb) hc
  refine PySem.W.method_cls I.kIn ga (PySem.W.cls_value I.kIn rd at_ (by decide +kernel) ?_)
  show wpAny _ _ (callWith pos (Value.builtin "ValueError.__init__") [] (backTo pos (starEach (e :: es) X.env)) []) _ _ _
  refine PyProof.Rows.callWith_method1 (thn (ha.run pos pins _ σ H _ (I.tok _) h) fun us s1 ⟨vs, H1, I1, r1, a, C, ws, ev, hl, T, ea, q⟩ => ?_) he hpl
  subst ev
  cases r1 with
  | @cons _ u0 _ ur ra rw' =>
    obtain rfl : u0 = Value.ref a := ra
    have hlen : ur.length ≤ sizeLine := by
      rw [← Paired.length rw', sizeLine_eq]
      omega
    exact oinit_ok T I1 ea hlen fun s' J => ⟨.non, H1, J, rfl, q⟩
end
end AL

set_option Elab.async false
set_option linter.all false
set_option maxRecDepth 100000
set_option maxHeartbeats 4000000
/-! AL10: raise C(x), try .. except C as n: k = n, on data and names. -/
namespace AL
open PySem PySem.Spec PyProof.Rows L2
/-- C.__init__(self, v): self.f = v -/
def spInit (C : Addr) (f : Str) : Sp := fun vs H Q E => ∃ a v, vs = [.ref a, v] ∧ H a = some (exo a C none) ∧ ∀ dx, H dx = none → dx ≠ a → Q .non (upd (upd H dx (exd dx [(f, v)])) a (exo a C (some dx)))
theorem passE0 {P : Program} {w : World} {X : Cx} : Passes (L2.CX P w) X (fun _ _ _ => False) := fun pins σ H s e s' I h => by
  obtain ⟨a, B, H', cls, d, _, _, _, _, _, _, _, z⟩ := h
  exact z.elim
/-- an own exception class with such an __init__ -/
structure ExcD (P : Program) (w : World) (K : PySem.W.Frag) (mg : Str → Option Value) (base : Heap) (x : Str) (C : Addr) (f : Str) : Prop where
  ex : ∃ (fI : Addr) (fd : FuncData) (ps : List Str), OexC K C ∧ PySem.W.findIn K (.ref C) "__init__" = some (some (.ref fI)) ∧ PySem.W.typeIn K (.ref fI) = some (.type "function") ∧
    FnOk P w K mg base (L2.CX P w) 1 fI fd ps (spInit C f) ∧ mg x = some (.ref C) ∧ Binds K fd ps []
section
variable {X : Cx} {x f : Str} {C : Addr} {e : Expr} {te : TE} {p pos pos2 : Pos} {W : WX} {j : Nat}
theorem ps_raiseC (T : ExcD X.prog X.w X.K X.mg X.base x C f) (hr : Room j X.A) (tk : Takes X W) (he : PE X e te) (hc : X.calm = true := by rfl) (hk : 2 ≤ j := by decide) (hg : Gl X x := by rfl)
    (hdb : (x == ("__debug__" : Str)) = false := by decide) (hs : starEach [e] X.env = (false, eval e X.env) :: starEach [] X.env := by rfl) :
    PS X (.Raise (some (.Call (.Name x p) [e] [] pos)) none pos2) (fun _ σ H => tMkO C (spInit C f) [] (tCons te tNil) σ H fun cls d H' => W cls d σ H') := by
  obtain ⟨fI, fd, ps, T1, iC, tI, F, hm, hb⟩ := T.ex
  exact ps_raise hc tk (pmk_oex T1 iC tI F (hr.mono hk) hb .nil passE0 hg hm (pa_cons he pa_nil hs) hdb hs)
end
section
variable {K : PySem.W.Frag} {b : Cf} {sl : Sl} {st : Sto} {te : TE} {e : DE}
theorem xd_heap {H1 : Hp} {a dx : Addr} {o1 o2 o3 o4 : HO} (ha : H1 a = none) (hne : dx ≠ a) : upd (del (upd (upd (upd H1 a o1) dx o2) a o3) a) dx o4 = upd H1 dx o4 := by
  funext y
  by_cases h1 : y = dx
  · subst h1; rw [upd_same, upd_same]
  · rw [upd_ne h1, upd_ne h1]
    by_cases h2 : y = a
    · subst h2; rw [del_same, ha]
    · rw [del_ne h2, upd_ne h2, upd_ne h1, upd_ne h2]
/-- raise C(x) -/
theorem ws_raiseC {W : WX} {G : Sl → AE → Sto → Prop} {C : Addr} {f : Str} (hW : ErrOk K b W G) (h : Wx K b te sl st fun x st1 => G sl ⟨.ref C, some [(f, x)]⟩ st1) :
    Ws K b (fun _ σ H => tMkO C (spInit C f) [] (tCons te tNil) σ H fun cls d H' => W cls d σ H') sl st e := fun b' hb D d c σ ec tb s S =>
  h c σ ec (hb.trans tb) s S _ fun v c1 x t1 s1 r1 k => by
  refine ⟨by show 1 ≤ 1000; decide, fun a ha => ⟨a, v, rfl, upd_same, fun dx hdx hne => ⟨rfl, dx, [(f, v)], upd_same, ?_, ?_, ?_⟩⟩⟩
  · rw [upd_ne hne, upd_same]
  · rw [upd_ne hne] at hdx
    exact hdx
  · rw [upd_ne hne] at hdx
    rw [xd_heap ha hne]
    obtain ⟨t2, s2, n2⟩ := tr_new (o := .xd [(f, v)]) s1 hdx
    exact hW (.ref C) (some dx) (c1.new dx (.xd [(f, v)])) σ sl ⟨.ref C, some [(f, x)]⟩ (((hb.trans tb).trans t1).trans t2) s2 ((t1.trans t2).ss S) ⟨rfl, dx, [(f, v)], rfl, upd_same, n2, .cons ⟨rfl, t2.rv r1⟩ .nil⟩ k
/-- try: body / except c as n: k = n -/
theorem ws_keep {c : Value} {i j : Nat} {tb : WX → TS} {Wout : WX} {G : Sl → AE → Sto → Prop} (hW : ErrOk K b Wout G) (hij : i ≠ j) (hi : i < sl.length)
    (h : ∀ b1 W, Tr b b1 → ErrOk K b1 W (fun sl' er st' => ∃ r, PySem.W.exmOne K er.cls c = some r ∧ (r = true → sl'.length = sl.length ∧ e.nx ((sl'.set j (some (.o st'.length))).set i none) (st' ++ [.exc er.cls (er.fs.getD [])])) ∧ (r = false → G sl' er st')) → Ws K b1 (tb W) sl st e) :
    Ws K b (fun D σ H => tb (wAsK K c i (fun _ _ _ => tAsg (tVar i) (gName j)) Wout D) D σ H) sl st e := fun b' hb D d c0 σ ec tr s S => by
  refine h b' _ hb ?_ b' (Tr.refl b') D d c0 σ ec tr s S
  intro cls dd c1 σ1 sl1 er t1 s1 S1 hEr ⟨r, hr, hy, hn⟩
  obtain ⟨rfl, hfs⟩ := hEr
  refine ⟨r, hr, fun hrt a ha => ?_, fun hrf => hW _ _ c1 σ1 sl1 er (hb.trans t1) s1 S1 ⟨rfl, hfs⟩ (hn hrf)⟩
  obtain ⟨hl, hnx⟩ := hy hrt
  have hil : i < σ1.length := by rw [S1.1, hl]; exact hi
  refine ⟨.ref a, by rw [List.getElem?_set_self hil], ?_⟩
  have t2 := tr_add (ho := exk a er.cls dd) (o := .exc er.cls (er.fs.getD [])) s1 ha
  have s2 : SR K (c1.add a (exk a er.cls dd) (.exc er.cls (er.fs.getD []))) := by
    refine sr_add s1 ha ?_
    have z : ∃ ws, (∀ d2, dd = some d2 → ¬ c1.Alive d2) ∧ XDict c1.hp dd ws ∧ Rf K c1 ws (er.fs.getD []) := by
      cases hf : er.fs with
      | none =>
        rw [hf] at hfs
        have hfs : dd = none := hfs
        subst hfs
        exact ⟨[], (fun _ z => by cases z), rfl, .nil⟩
      | some fs =>
        rw [hf] at hfs
        obtain ⟨dx, ws, rfl, h1, h2, h3⟩ := hfs
        exact ⟨ws, (fun d2 z => by cases z; exact h2), h1, h3⟩
    obtain ⟨ws, z1, z2, z3⟩ := z
    obtain ⟨y1, y2⟩ := xdict_keep (K := K) t2.keep z1 z2
    exact ⟨dd, ws, upd_same, y1, y2, paired_imp (fun _ _ r => ⟨r.1, t2.rv r.2⟩) z3⟩
  have S2 := t2.ss S1
  have S3 := (S2.set (i := j) (v := .ref a) (x := .o c1.st.length) ⟨a, add_idx s1, rfl⟩).forget (i := i)
  have e3 : (σ1.set j (some (.ref a))).set i none = ((σ1.set i (some (.ref a))).set j (some (.ref a))).set i none := by
    apply List.ext_getElem?
    intro k
    by_cases h1 : i = k
    · subst h1
      rw [List.getElem?_set_self (by simpa using hil), List.getElem?_set_self (by simpa using hil)]
    · rw [List.getElem?_set_ne h1, List.getElem?_set_ne h1]
      by_cases h2 : j = k
      · subst h2
        by_cases h3 : j < σ1.length
        · rw [List.getElem?_set_self h3, List.getElem?_set_self (by simpa using h3)]
        · rw [List.getElem?_eq_none (by simpa using h3), List.getElem?_eq_none (by simpa using h3)]
      · rw [List.getElem?_set_ne h2, List.getElem?_set_ne h2, List.getElem?_set_ne h1]
  rw [e3] at S3
  exact d.nx (c1.add a (exk a er.cls dd) (.exc er.cls (er.fs.getD []))) _ _ (t1.trans t2) s2 S3 hnx
/-- isinstance(x, C) of a kept exception -/
theorem o_isX {n : Nat} {D C : Addr} {fs : List (Str × AV)} {r : Bool} (hn : st[n]? = some (.exc (.ref D) fs)) (T : ExcC K D) (h : PySem.W.kitOne K (.ref D) (.ref C) = some r) : Oc K (rIsX K) [.o n, .raw (.ref C)] st (dB r) := fun c vs e s rr Q q => by
  obtain ⟨v, w, rfl, ⟨a, ia, rfl⟩, r2⟩ := rvs2 rr
  cases r2
  obtain ⟨d, ws, h1, _, h3, _⟩ := s.ob n a _ ia (by rw [e]; exact hn)
  exact ⟨a, D, C, d, ws, r, rfl, h1, h3, T, h, q _ c (Tr.refl c) s e (.bl _)⟩
end
/-! ### a field of a kept exception -/
def tXk (K : PySem.W.Frag) (f : Str) (te : TE) : TE := fun σ H Q => te σ H fun x H1 => ∃ (a D dd : Addr) (fs : List (Str × V)) (v : V), x = .ref a ∧ H1 a = some (exk a (.ref D) (some dd)) ∧ H1 dd = some (.xd fs) ∧ XfC K D ∧ PySem.W.findIn K (.ref D) f = some none ∧ fs.lookup f = some v ∧ Q v H1
section
variable {X : Cx} {e : Expr} {te : TE} {pos : Pos} {f : Str}
theorem pe_xk (he : PE X e te) (hb : attributeBase e f X.env (eval e X.env) = eval e X.env := by rfl) : PE X (.Attribute e f pos) (tXk X.K f te) := by
  refine ⟨fun pins s σ H Q I h => ?_⟩
  refine attr_of hb (thn (he.run pins s σ H _ I h) fun u s1 hh => ?_)
  obtain ⟨x, H1, I1, rx, a, D, dd, fs, v, ex, ea, ed, T, hno, l, q⟩ := hh
  subst ex
  obtain rfl : u = Value.ref a := rx
  obtain ⟨oe, vs, h1, h2, h3⟩ := exk_at I1.hok ea
  have hx : ObjOk X.prog X.w H1 s1.heap dd (.xd fs) := I1.hok dd _ ed
  obtain ⟨mA, hns, hr⟩ := hx
  obtain ⟨od, ho, hl⟩ := lookIn_ns hns
  obtain ⟨u, hu, ru⟩ := RelO.some_of (v := v) (o := mA f) (by rw [← l]; exact hr f)
  have J : PySem.W.InstAt s1.heap a oe D (some od) := ⟨h1, h2.1, by unfold PySem.W.notCls; rw [h3] <;> rfl, by rw [h2.2]; exact ho⟩
  exact HandSPX.exc_get I1.kIn J T.ga T.gg T.exC (PySem.W.findObj_own T.hdC hno rfl (by rw [hl, hu])) (handed_of ru) ⟨v, H1, I1.tok _, ru, q⟩
end
section
variable {K : PySem.W.Frag} {sl : Sl} {st : Sto} {te : TE}
theorem rf_get {c : Cf} {f : Str} {x : AV} : ∀ {ws : List (Str × V)} {fs : List (Str × AV)}, Rf K c ws fs → fs.lookup f = some x → ∃ v, ws.lookup f = some v ∧ Rv K c v x
  | _, _, .nil, h => nomatch h
  | (g, v) :: ws, (g', y) :: fs, .cons r t, h => by
    obtain ⟨r1, r2⟩ := r
    have r1 : g = g' := r1
    subst r1
    rw [List.lookup_cons] at h ⊢
    cases hg : (f == g) with
    | true =>
      rw [hg] at h
      cases h
      exact ⟨v, rfl, r2⟩
    | false =>
      rw [hg] at h
      exact rf_get t h
theorem ev_xk {n : Nat} {D : Addr} {fs : List (Str × AV)} {f : Str} {x : AV} (h : Ev K te sl st (.o n)) (hn : st[n]? = some (.exc (.ref D) fs)) (T : XfC K D) (hno : PySem.W.findIn K (.ref D) f = some none) (hl : fs.lookup f = some x) : Ev K (tXk K f te) sl st x := fun c σ e s S Q q =>
  h c σ e s S _ fun v c1 t1 s1 e1 r1 => by
  obtain ⟨a, ia, rfl⟩ := r1
  obtain ⟨d, ws, h1, h2, h3, h4⟩ := s1.ob n a _ ia (by rw [e1]; exact hn)
  obtain ⟨v, l, rv⟩ := rf_get h4 hl
  cases d with
  | none =>
    have h3 : ws = [] := h3
    subst h3
    cases l
  | some dd => exact ⟨a, D, dd, ws, v, rfl, h1, h3, T, hno, l, q v c1 t1 s1 e1 rv⟩
end
end AL

set_option Elab.async false
set_option linter.all false
set_option maxRecDepth 100000
set_option maxHeartbeats 4000000
/-! AL11: a, *b = a list, a tuple. -/
namespace AL
open PySem PySem.W PySem.Spec PySem.Calls PyProof.Rows
section
variable {prog : Program} {w : World} {A : Around} {E : Value → Shared → Prop} {s : Shared}
/-- the parts of an unpacking whose star stands last, over a list -/
theorem partsL {l : Addr} {items : Array Value} {i : Nat} {Q : List Value → Shared → Prop} (hl : s.heap.IsList l items) (hh : A.handled = none) (hi : i ≤ items.size) (hz : items.size ≤ sizeLine)
    (h : ∀ (h' : Heap) (tk : Nat), (∀ b o, s.heap.get? b = some o → h'.get? b = some o) → Q (items.toList.take i ++ [.ref h'.objs.size] ++ []) { s with heap := h'.push { cls := .type "list", data := .seq (items.toList.drop i).toArray }, toks := tk }) : wpAny (model prog w) A (unpackItems (.ref l) (i + 1) (some i)) Q E s := by
  obtain ⟨o0, ho0, _⟩ := id hl
  have far : l ≠ s.heap.objs.size := Nat.ne_of_lt (Heap.lt_size ho0)
  unfold unpackItems
  refine wpAny_bind ?_
  unfold notIterableAtAll
  refine wpAny_bind (wpAny_specialOf hl.typeIs slot_list_iter.lookup (wpAny_pure ?_))
  simp only [Bool.false_eq_true, if_false]
  refine wpAny_bind (wpAny_holding (wpAny_pyIter_list hl ?_))
  refine wpAny_bind (wpAny_holding (kun_draw far i 0 _ _ ⟨_, Heap.get?_push_size _ rfl, rfl, rfl⟩ (hl.push _) (by omega) fun g it sb => ?_))
  have hl2 : g.IsList l items := (hl.push _).extBut sb.extBut far
  rw [Nat.zero_add] at it
  obtain ⟨oi, hoi, _⟩ := id it
  obtain ⟨ol, hol, _⟩ := id hl2
  rw [List.drop_zero]
  have ln : (items.toList.take i).length = i := by rw [List.length_take, Array.length_toList]; omega
  rw [if_neg (show ¬ ((items.toList.take i).length < i) by omega)]
  refine wpAny_bind (wpAny_holding (kun_collect (s := { s with heap := g }) (T := "list_iterator") (.inr (.inr (.inl rfl))) (Walks.list (A := A.in1) hh s.heap.objs.size l far items) (fun j u st => st.1.typeIs) hi ⟨it, hl2⟩ (Heap.lt_size hoi) (Heap.lt_size hol) (fun g2 tk hk => ?_) hz))
  have e0 : i + 1 - 1 - i = 0 := by omega
  show wpAny _ _ (if (items.toList.drop i).length < i + 1 - 1 - i then _ else _) _ _ _
  rw [if_neg (by omega)]
  show wpAny _ _ (newList ((items.toList.drop i).take ((items.toList.drop i).length - (i + 1 - 1 - i))) >>= fun d => pure (items.toList.take i ++ [d] ++ (items.toList.drop i).drop ((items.toList.drop i).length - (i + 1 - 1 - i)))) _ _ _
  rw [e0, Nat.sub_zero, List.take_length, List.drop_length]
  have k : ∀ b o, s.heap.get? b = some o → g2.get? b = some o := fun b o e => hk b o (Nat.ne_of_lt (Heap.lt_size e)) (sb.extBut b o (Nat.ne_of_lt (Heap.lt_size e)) (Heap.get?_push_of_some _ e))
  exact wpAny_bind (wpAny_newList (wpAny_pure (h g2 tk k)) (by rw [List.length_drop, Array.length_toList]; omega))
theorem partsT {l : Addr} {items : Array Value} {i : Nat} {Q : List Value → Shared → Prop} (hl : IsTup s.heap l items) (hh : A.handled = none) (hi : i ≤ items.size) (hz : items.size ≤ sizeLine)
    (h : ∀ (h' : Heap) (tk : Nat), (∀ b o, s.heap.get? b = some o → h'.get? b = some o) → Q (items.toList.take i ++ [.ref h'.objs.size] ++ []) { s with heap := h'.push { cls := .type "list", data := .seq (items.toList.drop i).toArray }, toks := tk }) : wpAny (model prog w) A (unpackItems (.ref l) (i + 1) (some i)) Q E s := by
  obtain ⟨o0, ho0, _⟩ := id hl
  have far : l ≠ s.heap.objs.size := Nat.ne_of_lt (Heap.lt_size ho0)
  unfold unpackItems
  refine wpAny_bind ?_
  unfold notIterableAtAll
  refine wpAny_bind (wpAny_specialOf hl.typeIs slot_tuple_iter.lookup (wpAny_pure ?_))
  simp only [Bool.false_eq_true, if_false]
  refine wpAny_bind (wpAny_holding (iter_tuple hl ?_))
  refine wpAny_bind (wpAny_holding (draw_tuple far i 0 _ _ ⟨_, Heap.get?_push_size _ rfl, rfl, rfl⟩ (hl.push _) (by omega) fun g it sb => ?_))
  have hl2 : IsTup g l items := (hl.push _).extBut sb.extBut far
  rw [Nat.zero_add] at it
  obtain ⟨oi, hoi, _⟩ := id it
  obtain ⟨ol, hol, _⟩ := id hl2
  rw [List.drop_zero]
  have ln : (items.toList.take i).length = i := by rw [List.length_take, Array.length_toList]; omega
  rw [if_neg (show ¬ ((items.toList.take i).length < i) by omega)]
  refine wpAny_bind (wpAny_holding (kun_collect (s := { s with heap := g }) (T := "tuple_iterator") (.inr (.inr (.inr rfl))) (Walks.tuple (A := A.in1) hh s.heap.objs.size l far items) (fun j u st => st.1.typeIs) hi ⟨it, hl2⟩ (Heap.lt_size hoi) (Heap.lt_size hol) (fun g2 tk hk => ?_) hz))
  have e0 : i + 1 - 1 - i = 0 := by omega
  show wpAny _ _ (if (items.toList.drop i).length < i + 1 - 1 - i then _ else _) _ _ _
  rw [if_neg (by omega)]
  show wpAny _ _ (newList ((items.toList.drop i).take ((items.toList.drop i).length - (i + 1 - 1 - i))) >>= fun d => pure (items.toList.take i ++ [d] ++ (items.toList.drop i).drop ((items.toList.drop i).length - (i + 1 - 1 - i)))) _ _ _
  rw [e0, Nat.sub_zero, List.take_length, List.drop_length]
  have k : ∀ b o, s.heap.get? b = some o → g2.get? b = some o := fun b o e => hk b o (Nat.ne_of_lt (Heap.lt_size e)) (sb.extBut b o (Nat.ne_of_lt (Heap.lt_size e)) (Heap.get?_push_of_some _ e))
  exact wpAny_bind (wpAny_newList (wpAny_pure (h g2 tk k)) (by rw [List.length_drop, Array.length_toList]; omega))
end
end AL
namespace AL
open PySem PySem.Spec PyProof.Rows L2
/-- a, .., *b = a list, a tuple: i names, then the star -/
def gStar (K : PySem.W.Frag) (i : Nat) (u : TGs) : TG := fun v σ H Q => ∃ a xs, v = .ref a ∧ (SqL K H a xs ∨ SqT K H a xs) ∧ i ≤ xs.length ∧ ∀ D, H D = none → u (xs.take i ++ [.ref D]) σ (upd H D (.lst (xs.drop i))) Q
section
variable {X : Cx} {es : List Expr} {k : Nat} {pos : Pos} {u : TGs} {i : Nat}
theorem vals_take : ∀ {xs : List V} {us : List Value} (n : Nat), Vals xs us → Vals (xs.take n) (us.take n)
  | _, _, 0, _ => .nil
  | _, _, n + 1, .nil => .nil
  | _, _, n + 1, .cons r t => .cons r (vals_take n t)
theorem vals_drop : ∀ {xs : List V} {us : List Value} (n : Nat), Vals xs us → Vals (xs.drop n) (us.drop n)
  | _, _, 0, h => h
  | _, _, n + 1, .nil => .nil
  | _, _, n + 1, .cons _ t => vals_drop n t
theorem pgs_star {e : Expr} {ps : Pos} {es : List Expr} {t : TG} {u : TGs} (h1 : PG X e t) (h2 : PGs X es u) (hs : (assignEach (.Starred e ps :: es) X.env).map (·.2) = assign e X.env :: (assignEach es X.env).map (·.2) := by rfl) : PGs X (.Starred e ps :: es) (gCons t u) := by
  refine ⟨fun pins s σ H vs us Q I r h => ?_⟩
  obtain ⟨v, vr, e1, h⟩ := h
  subst e1
  cases r with
  | cons r rr =>
    rw [hs]
    exact assignInOrder_cons (thn (h1.run pins s σ H _ _ _ I r h) fun _ s1 ⟨σ1, H1, I1, q1⟩ => h2.run pins s1 σ1 H1 _ _ Q I1 rr q1)
theorem pg_star (hc : X.calm = true) (h : PGs X es u) (hn : (assignEach es X.env).length = i + 1 := by rfl) (hst : (assignEach es X.env).findIdx? (·.1) = some i := by rfl) : PG X (.Tuple es k pos) (gStar X.K i u) := by
  refine ⟨fun pins s σ H v w Q I r hw => ?_⟩
  obtain ⟨a, xs, rfl, hq, hi, hw⟩ := hw
  cases r
  have done : ∀ (its : List Value), Vals xs its → xs.length ≤ sizeLine → ∀ (h' : Heap) (tk : Nat), (∀ b o, s.heap.get? b = some o → h'.get? b = some o) →
      wpAny (model X.prog X.w) X.A (assignInOrder ((assignEach es X.env).map (·.2)) (its.toArray.toList.take i ++ [.ref h'.objs.size] ++ [])) (fun _ s' => ∃ σ' H', Inv X pins σ' H' s' ∧ Q σ' H') X.xe { s with heap := h'.push { cls := .type "list", data := .seq (its.toArray.toList.drop i).toArray }, toks := tk } := by
    intro its rv hz h' tk hk
    have I1 : Inv X pins σ H { s with heap := h' } := I.kept (t' := s.toks) hk
    have I2 := I1.lnew (t' := tk) (vals_drop i rv) (by rw [List.length_drop]; omega)
    rw [List.append_nil]
    exact h.run pins _ σ _ (xs.take i ++ [.ref h'.objs.size]) _ Q I2 ((vals_take i rv).append (.cons (show RelV (.ref h'.objs.size) (.ref h'.objs.size) from rfl) .nil)) (hw _ I1.fresh)
  rcases hq with hq | hq
  · obtain ⟨its, rv, pl, hz⟩ := I.list hq
    have hl := rv.length
    rw [assign_Tuple]
    refine wpAny_bind (wpAny_standAt ?_)
    unfold unpack
    rw [hn, hst]
    exact wpAny_bind (wpAny_holding (partsL pl.isList (I.ok.hd hc) (by simp; omega) (by simp; omega) fun h' tk hk => done its rv hz h' tk hk))
  · obtain ⟨its, rv, pt, hz⟩ := I.tuple hq
    have hl := rv.length
    rw [assign_Tuple]
    refine wpAny_bind (wpAny_standAt ?_)
    unfold unpack
    rw [hn, hst]
    exact wpAny_bind (wpAny_holding (partsT pt (I.ok.hd hc) (by simp; omega) (by simp; omega) fun h' tk hk => done its rv hz h' tk hk))
end
end AL
namespace AL
open PySem PySem.Spec PyProof.Rows L2
section
variable {K : PySem.W.Frag} {sl sl2 : Sl} {st : Sto} {b : Cf} {te : TE} {e : DE}
/-- x, .., *r = data: the names before the star at js, the star's at j -/
def starS (sl : Sl) : List Nat → List PyData → Sl
  | j :: js, d :: ds => starS (sl.set j (some (.d d))) js ds
  | _, _ => sl
theorem ws_star1 {i j : Nat} (h : Wx K b te sl st fun x st1 => ∃ d ds, (x = dL (d :: ds) ∨ x = dT (d :: ds)) ∧ e.nx ((sl.set i (some (.d d))).set j (some (dL ds))) st1) : Ws K b (tAsg te (gStar K 1 (gCons (gName i) (gCons (gName j) gNil)))) sl st e := fun b' hb D dk c σ ec tb s S =>
  h c σ ec (hb.trans tb) s S _ fun v c1 x t1 s1 r1 ⟨d, ds, hx, k⟩ => by
  have S1 := t1.ss S
  rcases hx with rfl | rfl
  · cases r1 with
    | @lst a us _ m ea d1 =>
      cases d1 with
      | @cons v0 vs _ _ r0 rs =>
        refine ⟨a, v0 :: vs, rfl, Or.inl (Or.inl (Or.inl ea)), by simp, fun Da hD => ?_⟩
        obtain ⟨t2, s2, n2⟩ := tr_new (o := .lst vs) s1 hD
        refine ⟨v0, [.ref Da], rfl, .ref Da, [], rfl, rfl, ?_⟩
        exact dk.nx _ _ _ ((tb.trans t1).trans t2) s2 (((t2.ss S1).set (t2.rv (x := .d d) r0)).set (x := dL ds) (Dt.lst n2 upd_same (DtA.mono t2.keep _ _ rs))) k
  · obtain ⟨a, us, rfl, h1, d1⟩ := rv_t r1
    cases d1 with
    | @cons v0 vs _ _ r0 rs =>
      refine ⟨a, v0 :: vs, rfl, Or.inr h1, by simp, fun Da hD => ?_⟩
      obtain ⟨t2, s2, n2⟩ := tr_new (o := .lst vs) s1 hD
      refine ⟨v0, [.ref Da], rfl, .ref Da, [], rfl, rfl, ?_⟩
      exact dk.nx _ _ _ ((tb.trans t1).trans t2) s2 (((t2.ss S1).set (t2.rv (x := .d d) r0)).set (x := dL ds) (Dt.lst n2 upd_same (DtA.mono t2.keep _ _ rs))) k
end
end AL

set_option Elab.async false
set_option linter.all false
set_option maxRecDepth 100000
set_option maxHeartbeats 4000000
/-! AL12: zip of two things of any of the kinds list, tuple, text. -/
namespace AL
open PySem PySem.Spec PyProof.Rows L2
/-- one side of a zip: the value v, n items; G: what must be known of the heap; src: the objects behind it; It: an iterator over it stands at place i -/
structure Side (P : Program) (w : World) (K : PySem.W.Frag) (v : V) (n : Nat) (val : Nat → Option V) (G : Hp → Prop) (src : List Addr) (It : Heap → Addr → Nat → Prop) : Prop where
  begins : ∀ (X : Cx) (pins : List (Addr × Obj)) (σ : L2.St) (H : Hp) (s : Shared) (u : Value), X.K = K → Inv X pins σ H s → RelV v u → G H →
    (∀ b ∈ src, b < s.heap.objs.size) ∧ ∃ (o : Obj) (Hs : Heap → Prop), Begins u o Hs ∧ Hs s.heap ∧ ∀ h a, h.get? a = some o → It h a 0
  obj : ∀ h a i, It h a i → ∃ o, h.get? a = some o ∧ ∀ c, o.data ≠ .cell c
  keep : ∀ h h' a i, It h a i → (∀ o, h.get? a = some o → h'.get? a = some o) → It h' a i
  draws : ∀ (X : Cx) (pins : List (Addr × Obj)) (σ : L2.St) (H : Hp) (s : Shared) (i : Nat) (it : Addr), X.prog = P → X.w = w → X.K = K → Inv X pins σ H s → X.A.handled = none → G H → It s.heap it i → it ∉ src →
    ∃ (Pv : Nat → Value → Prop) (St : Nat → Heap → Prop), Draws P w X.A.in1 it (it :: src) n Pv St ∧ St i s.heap ∧ (∀ x, Pv i x → ∃ y, val i = some y ∧ RelV y x) ∧ ∀ h j, St j h → It h it j
section
variable {P : Program} {w : World} {K : PySem.W.Frag}
theorem side_list {a : Addr} {xs : List V} : Side P w K (.ref a) xs.length (fun i => xs[i]?) (fun H => SqL K H a xs) [a] (fun h it i => h.IsListIter it a i) where
  begins := fun X pins σ H s u hK I r g => by
    subst hK
    cases r
    obtain ⟨its, rv, p, _⟩ := I.list g
    exact ⟨fun b hb => by rw [List.mem_singleton.mp hb]; exact p.lt, _, _, begins_list a its.toArray, p.isList, fun h c e => ⟨_, e, rfl, rfl⟩⟩
  obj := fun h c i st => by
    obtain ⟨o, e, _, d⟩ := st
    exact ⟨o, e, fun c q => by rw [d] at q; cases q⟩
  keep := fun h h' c i st k => st.at fun o q => k o q
  draws := fun X pins σ H s i it hP hw hK I hh g st hit => by
    subst hP hw hK
    obtain ⟨its, rv, p, _⟩ := I.list g
    have hl : its.toArray.size = xs.length := by rw [List.size_toArray]; exact rv.length.symm
    have D := Draws.list (prog := X.prog) (w := X.w) (A := X.A.in1) hh it a (fun e => hit (by rw [← e]; exact List.mem_singleton.mpr rfl)) its.toArray
    rw [hl] at D
    refine ⟨_, _, D, ⟨st, p.isList⟩, fun x hx => ?_, fun h j q => q.1⟩
    have hx : its.toArray[i]? = some x := hx
    have hx : its[i]? = some x := by simpa using hx
    exact paired_getR rv i hx
where
  paired_getR {xs : List V} {us : List Value} (r : Vals xs us) (i : Nat) {x : Value} (h : us[i]? = some x) : ∃ y, xs[i]? = some y ∧ RelV y x := by
    induction r generalizing i with
    | nil => cases h
    | cons r _ ih =>
      cases i with
      | zero => cases h; exact ⟨_, rfl, r⟩
      | succ i => exact ih i h
theorem paired_getR {xs : List V} {us : List Value} (r : Vals xs us) (i : Nat) {x : Value} (h : us[i]? = some x) : ∃ y, xs[i]? = some y ∧ RelV y x := by
  induction r generalizing i with
  | nil => cases h
  | cons r _ ih =>
    cases i with
    | zero => cases h; exact ⟨_, rfl, r⟩
    | succ i => exact ih i h
theorem side_tup {a : Addr} {xs : List V} : Side P w K (.ref a) xs.length (fun i => xs[i]?) (fun H => SqT K H a xs) [a] (fun h it i => h.IsTupleIter it a i) where
  begins := fun X pins σ H s u hK I r g => by
    subst hK
    cases r
    obtain ⟨its, rv, p, _⟩ := I.tuple g
    obtain ⟨o, ho, _⟩ := id p
    exact ⟨fun b hb => by rw [List.mem_singleton.mp hb]; exact Heap.lt_size ho, _, _, begins_tuple a its.toArray, (show s.heap.IsTuple a its.toArray from p), fun h c e => ⟨_, e, rfl, rfl⟩⟩
  obj := fun h c i st => by
    obtain ⟨o, e, _, d⟩ := st
    exact ⟨o, e, fun c q => by rw [d] at q; cases q⟩
  keep := fun h h' c i st k => st.at fun o q => k o q
  draws := fun X pins σ H s i it hP hw hK I hh g st hit => by
    subst hP hw hK
    obtain ⟨its, rv, p, _⟩ := I.tuple g
    have hl : its.toArray.size = xs.length := by rw [List.size_toArray]; exact rv.length.symm
    have D := Draws.tuple (prog := X.prog) (w := X.w) (A := X.A.in1) hh it a (fun e => hit (by rw [← e]; exact List.mem_singleton.mpr rfl)) its.toArray
    rw [hl] at D
    refine ⟨_, _, D, ⟨st, (show s.heap.IsTuple a its.toArray from p)⟩, fun x hx => ?_, fun h j q => q.1⟩
    have hx : its.toArray[i]? = some x := hx
    have hx : its[i]? = some x := by simpa using hx
    exact paired_getR rv i hx
theorem side_str {z : Str} : Side P w K (.str z) z.cps.size (fun i => z.cps[i]?.map fun c => V.str ⟨#[c]⟩) (fun _ => True) [] (fun h it i => ∃ t, h.IsStrIter it (strIterType z) z t i) where
  begins := fun X pins σ H s u hK I r g => by
    obtain ⟨t, rfl⟩ := r
    exact ⟨(fun b hb => by cases hb), _, _, begins_text z t, trivial, fun h c e => ⟨t, _, e, rfl, rfl⟩⟩
  obj := fun h c i st => by
    obtain ⟨t, o, e, _, d⟩ := st
    exact ⟨o, e, fun c q => by rw [d] at q; cases q⟩
  keep := fun h h' c i ⟨t, o, e, q⟩ k => ⟨t, o, k o e, q⟩
  draws := fun X pins σ H s i it hP hw hK I hh g st hit => by
    subst hP hw hK
    obtain ⟨t, st⟩ := st
    have D := Draws.text (prog := X.prog) (w := X.w) (A := X.A.in1) hh it z t
    refine ⟨_, _, D, st, fun x hx => ?_, fun h j q => ⟨t, q⟩⟩
    obtain ⟨c, u, h1, rfl⟩ := hx
    exact ⟨.str ⟨#[c]⟩, by rw [h1]; rfl, u, rfl⟩
/-- what a zip of two sides walks: the items in new pairs -/
def ItzS (n1 n2 : Nat) (val1 val2 : Nat → Option V) (G1 G2 : Hp → Prop) : It :=
  ⟨fun i H => i < n1 ∧ i < n2 ∧ G1 H ∧ G2 H, fun i H v H' => ∃ T x y, v = .ref T ∧ H T = none ∧ H' = upd H T (.tup [x, y]) ∧ val1 i = some x ∧ val2 i = some y, fun i H => (i = min n1 n2) ∧ G1 H ∧ G2 H⟩
theorem turn_zipS {v1 v2 : V} {n1 n2 : Nat} {val1 val2 : Nat → Option V} {G1 G2 : Hp → Prop} {src1 src2 : List Addr} {It1 It2 : Heap → Addr → Nat → Prop} (S1 : Side P w K v1 n1 val1 G1 src1 It1) (S2 : Side P w K v2 n2 val2 G2 src2 It2)
    {elts : List Expr} {kk : Nat} {tpos : Pos} {z TI TO i1 i2 : Addr} (d : [z, TI, TO, i1, i2].Nodup) (d1 : ∀ b ∈ src1, b ∉ [z, TI, TO, i1, i2]) (d2 : ∀ b ∈ src2, b ∉ [z, TI, TO, i1, i2]) :
    Turn P w K (.Tuple elts kk tpos) (ItzS n1 n2 val1 val2 G1 G2) [z, TI, TO, i1, i2] z (fun i h => IsZip h z TI TO .none ∧ IsPair h TI (.ref i1) (.ref i2) ∧ (∃ x y, IsPair h TO x y) ∧ It1 h i1 i ∧ It2 h i2 i) := by
  have nz : z ≠ TI ∧ z ≠ TO ∧ z ≠ i1 ∧ z ≠ i2 ∧ TI ≠ TO ∧ TI ≠ i1 ∧ TI ≠ i2 ∧ TO ≠ i1 ∧ TO ≠ i2 ∧ i1 ≠ i2 := by
    simp only [List.nodup_cons, List.mem_cons, List.not_mem_nil, or_false, not_or, not_false_eq_true, List.nodup_nil, and_true] at d
    obtain ⟨⟨a, b, c, e⟩, ⟨f, g, h⟩, ⟨i, j⟩, k⟩ := d
    exact ⟨a, b, c, e, f, g, h, i, j, k⟩
  obtain ⟨a1, a2, a3, a4, a5, a6, a7, a8, a9, a10⟩ := nz
  have n1' : ∀ c ∈ [z, TI, TO, i1, i2], c ∉ src1 := fun c hc hs => d1 c hs hc
  have n2' : ∀ c ∈ [z, TI, TO, i1, i2], c ∉ src2 := fun c hc hs => d2 c hs hc
  have Z : ZipSep2 z TI TO i1 i2 (i1 :: src1) (i2 :: src2) := by
    refine ⟨a1.symm, a2.symm, a5, a6, List.mem_cons_self .., ?_, ?_, a7, List.mem_cons_self .., ?_, ?_, ?_, ?_⟩
    all_goals (rw [List.mem_cons, not_or])
    · exact ⟨a3, n1' z (by simp)⟩
    · exact ⟨a8, n1' TO (by simp)⟩
    · exact ⟨a4, n2' z (by simp)⟩
    · exact ⟨a9, n2' TO (by simp)⟩
    · exact ⟨a10, n2' i1 (by simp)⟩
    · exact ⟨a10.symm, n1' i2 (by simp)⟩
  refine ⟨by simp, fun i h st c hc => ?_, fun i h h' st k => ?_, ?_, ?_, fun A i s Q E st h => wpAny_pyIter_zip st.1 h⟩
  · obtain ⟨hz, hTI, ⟨x, y, hTO⟩, h1, h2⟩ := st
    have e' : c = z ∨ c = TI ∨ c = TO ∨ c = i1 ∨ c = i2 := by simpa using hc
    rcases e' with q | q | q | q | q
    · rw [q]; exact ⟨_, hz, fun v q => nomatch q⟩
    · rw [q]; exact ⟨_, hTI, fun v q => nomatch q⟩
    · rw [q]; exact ⟨_, hTO, fun v q => nomatch q⟩
    · rw [q]; exact S1.obj h i1 i h1
    · rw [q]; exact S2.obj h i2 i h2
  · obtain ⟨hz, hTI, ⟨x, y, hTO⟩, h1, h2⟩ := st
    exact ⟨k z (by simp) _ hz, k TI (by simp) _ hTI, ⟨x, y, k TO (by simp) _ hTO⟩, S1.keep h h' i1 i h1 fun o q => k i1 (by simp) o q, S2.keep h h' i2 i h2 fun o q => k i2 (by simp) o q⟩
  · intro X hP hw hK hc i pins s σ H E I hf st hg
    obtain ⟨hz, hTI, ⟨x0, y0, hTO⟩, h1, h2⟩ := st
    obtain ⟨l1, l2, g1, g2⟩ := hg
    obtain ⟨P1, St1, D1, st1, v1, e1⟩ := S1.draws X pins σ H s i i1 hP hw hK I (I.ok.hd hc) g1 h1 (n1' i1 (by simp))
    obtain ⟨P2, St2, D2, st2, v2, e2⟩ := S2.draws X pins σ H s i i2 hP hw hK I (I.ok.hd hc) g2 h2 (n2' i2 (by simp))
    subst hP hw hK
    have hzl : z < s.heap.objs.size := Heap.lt_size hz
    refine wpAny_pyNext_zipD2_item Z D1 D2 hz hTI hTO st1 st2 l1 l2 fun u u2 h' tk p1 p2 z' TO' s1' s2' hT hsz hk => ?_
    obtain ⟨x, hx, ru⟩ := v1 u p1
    obtain ⟨y, hy, ru2⟩ := v2 u2 p2
    refine ⟨_, rfl, wpAny_letOwnedTupleGo_zip (s := { s with heap := h', toks := tk }) z' fun h'' z'' sb => ?_⟩
    have hT2 : h''.get? s.heap.objs.size = some { cls := .type "tuple", data := .seq #[u, u2] } := (sb.2 _ (Nat.ne_of_gt hzl)).trans hT
    have new : ObjOk X.prog X.w (upd H s.heap.objs.size (.tup [x, y])) h'' s.heap.objs.size (.tup [x, y]) :=
      ⟨by show 2 ≤ sizeLine; decide, [u, u2], .cons ru (.cons ru2 .nil), ⟨_, hT2, rfl, _, rfl⟩⟩
    have I1 : Inv X pins σ (upd H s.heap.objs.size (.tup [x, y])) { s with heap := h'', toks := tk } :=
      I.turnedNew (t' := tk) (ch := [z, TI, TO, i1, i2]) (fun c o hb q => (sb.2 c (fun q' => hb (by simp [q']))).trans (hk c o (fun q' => hb (by simp [q'])) (fun q' => hb (by simp [q'])) (fun q' => hb (by simp [q'])) (fun q' => hb (by simp [q'])) q)) hf (Nat.le_refl _) new
    refine ⟨.ref s.heap.objs.size, _, I1, rfl, ⟨_, x, y, rfl, I.hok.fresh (Nat.le_refl _), rfl, hx, hy⟩, ⟨z'', ?_, ⟨u, u2, ?_⟩, ?_, ?_⟩, fun c hcm => ?_⟩
    · exact (sb.2 _ a1.symm).trans (hk _ _ a1.symm a5 a6 a7 hTI)
    · exact (sb.2 _ a2.symm).trans TO'
    · exact S1.keep _ _ i1 (i + 1) (e1 _ _ s1') fun o q => (sb.2 _ a3.symm).trans q
    · exact S2.keep _ _ i2 (i + 1) (e2 _ _ s2') fun o q => (sb.2 _ a4.symm).trans q
    · have hlt : c < s.heap.objs.size := by
        have e' : c = z ∨ c = TI ∨ c = TO ∨ c = i1 ∨ c = i2 := by simpa using hcm
        rcases e' with q | q | q | q | q
        · rw [q]; exact hzl
        · rw [q]; exact Heap.lt_size hTI
        · rw [q]; exact Heap.lt_size hTO
        · rw [q]; obtain ⟨_, e, _⟩ := S1.obj _ _ _ h1; exact Heap.lt_size e
        · rw [q]; obtain ⟨_, e, _⟩ := S2.obj _ _ _ h2; exact Heap.lt_size e
      rw [upd_ne (Nat.ne_of_lt hlt)]
      exact (hf c hcm).1
  · intro X hP hw hK hc i pins s σ H E I hf st hg
    obtain ⟨hz, hTI, ⟨x0, y0, hTO⟩, h1, h2⟩ := st
    obtain ⟨he, g1, g2⟩ := hg
    obtain ⟨P1, St1, D1, st1, v1, e1⟩ := S1.draws X pins σ H s i i1 hP hw hK I (I.ok.hd hc) g1 h1 (n1' i1 (by simp))
    obtain ⟨P2, St2, D2, st2, v2, e2⟩ := S2.draws X pins σ H s i i2 hP hw hK I (I.ok.hd hc) g2 h2 (n2' i2 (by simp))
    subst hP hw hK
    refine wpAny_pyNext_zipD2_end Z D1 D2 hz hTI hTO st1 st2 (by omega) (by omega) (by omega) fun h' tk hk => ⟨rfl, ?_⟩
    have := I.turnedL (t' := tk) (h' := h') (ch := [z, TI, TO, i1, i2]) (fun c o hb q =>
      hk c o (fun q' => hb (by simp [q'])) (fun q' => hb (by simp [q'])) (fun q' => hb (by simp [q'])) (fun q' => hb (by simp [q'])) q) hf
    exact this
end
end AL

set_option Elab.async false
set_option linter.all false
set_option maxRecDepth 100000
set_option maxHeartbeats 4000000
/-! AL13: zip(e, e2) as an iteration, on data. -/
namespace AL
open PySem PySem.Spec PyProof.Rows L2
def iZipS (P : Program) (w : World) (K : PySem.W.Frag) (ta : TA) : TI := fun σ H R => ta σ H fun vs H1 => ∃ (v1 v2 : V) (n1 n2 : Nat) (val1 val2 : Nat → Option V) (G1 G2 : Hp → Prop) (src1 src2 : List Addr) (It1 It2 : Heap → Addr → Nat → Prop),
  vs = [v1, v2] ∧ Side P w K v1 n1 val1 G1 src1 It1 ∧ Side P w K v2 n2 val2 G2 src2 It2 ∧ G1 H1 ∧ G2 H1 ∧ R (ItzS n1 n2 val1 val2 G1 G2) H1
theorem pi_zipS {X : Cx} {e e2 : Expr} {ta : TA} {p pos tpos : Pos} {elts : List Expr} {kk : Nat} (ha : PA X [e, e2] ta) (hm : X.mg "zip" = none) (hg : Gl X "zip" := by rfl)
    (hs : starEach [e, e2] X.env = (false, eval e X.env) :: starEach [e2] X.env := by rfl) (hpl : (backTo pos (starEach [e2] X.env)).any (·.1) = false := by rfl) :
    PI X (.Tuple elts kk tpos) (.Call (.Name "zip" p) [e, e2] [] pos) (iZipS X.prog X.w X.K ta) := by
  refine ⟨fun pins s σ H R I h => ?_⟩
  refine Call_ (ld_blt I hg hm PyProof.Rows.boot_zip (PyProof.Rows.callWith_type1 (thn (ha.run pos pins s σ H _ I h) fun us s1 ⟨vs, H1, I1, r1, q1⟩ => ?_) hs hpl))
  obtain ⟨v1, v2, n1, n2, val1, val2, G1, G2, src1, src2, It1, It2, rfl, S1, S2, g1, g2, q⟩ := q1
  obtain ⟨u1, u2, rfl, r1, r2⟩ := vals2 r1
  obtain ⟨b1, o1, Hs1, B1, hs1, it1⟩ := S1.begins X pins σ H1 s1 u1 rfl I1 r1 g1
  obtain ⟨b2, o2, Hs2, B2, hs2, it2⟩ := S2.begins X pins σ H1 s1 u2 rfl I1 r2 g2
  refine zip_begins2 B1 B2 hs1 hs2 fun h' hz hTI hTO h1 h2 hsz hk => wpAny_pyIter_zip hz ?_
  have I2 : Inv X pins σ H1 { s1 with heap := h' } := I1.kept (t' := s1.toks) hk
  have far : ∀ b, b < s1.heap.objs.size → b ∉ [s1.heap.objs.size + 4, s1.heap.objs.size + 2, s1.heap.objs.size + 3, s1.heap.objs.size, s1.heap.objs.size + 1] := fun b hb hm => by
    simp only [List.mem_cons, List.not_mem_nil, or_false] at hm
    rcases hm with q | q | q | q | q
    · rw [q] at hb; exact absurd hb (by intro z; exact absurd (Nat.lt_of_le_of_lt (Nat.le_add_right _ _) z) (Nat.lt_irrefl _))
    · rw [q] at hb; exact absurd hb (by intro z; exact absurd (Nat.lt_of_le_of_lt (Nat.le_add_right _ _) z) (Nat.lt_irrefl _))
    · rw [q] at hb; exact absurd hb (by intro z; exact absurd (Nat.lt_of_le_of_lt (Nat.le_add_right _ _) z) (Nat.lt_irrefl _))
    · rw [q] at hb; exact absurd hb (Nat.lt_irrefl _)
    · rw [q] at hb; exact absurd hb (by intro z; exact absurd (Nat.lt_of_le_of_lt (Nat.le_add_right _ _) z) (Nat.lt_irrefl _))
  have nd : [s1.heap.objs.size + 4, s1.heap.objs.size + 2, s1.heap.objs.size + 3, s1.heap.objs.size, s1.heap.objs.size + 1].Nodup := by
    generalize s1.heap.objs.size = n
    have l : ∀ i j : Nat, i ≠ j → n + i ≠ n + j := fun i j h e => h (Nat.add_left_cancel e)
    refine List.nodup_cons.mpr ⟨?_, List.nodup_cons.mpr ⟨?_, List.nodup_cons.mpr ⟨?_, List.nodup_cons.mpr ⟨?_, List.nodup_cons.mpr ⟨by simp, List.nodup_nil⟩⟩⟩⟩⟩
    · simp only [List.mem_cons, List.not_mem_nil, or_false, not_or]
      exact ⟨l 4 2 (by decide), l 4 3 (by decide), l 4 0 (by decide), l 4 1 (by decide)⟩
    · simp only [List.mem_cons, List.not_mem_nil, or_false, not_or]
      exact ⟨l 2 3 (by decide), l 2 0 (by decide), l 2 1 (by decide)⟩
    · simp only [List.mem_cons, List.not_mem_nil, or_false, not_or]
      exact ⟨l 3 0 (by decide), l 3 1 (by decide)⟩
    · simp only [List.mem_cons, List.not_mem_nil, or_false]
      exact l 0 1 (by decide)
  refine ⟨s1.heap.objs.size + 4, [s1.heap.objs.size + 4, s1.heap.objs.size + 2, s1.heap.objs.size + 3, s1.heap.objs.size, s1.heap.objs.size + 1], _, _, H1, rfl, I2, turn_zipS S1 S2 nd (fun b hb => far b (b1 b hb)) (fun b hb => far b (b2 b hb)), ⟨hz, hTI, ⟨_, _, hTO⟩, it1 _ _ h1, it2 _ _ h2⟩, fun c hcm => ?_, q⟩
  have hle : s1.heap.objs.size ≤ c := by
    by_cases hc : s1.heap.objs.size ≤ c
    · exact hc
    · exact absurd hcm (far c (Nat.lt_of_not_le hc))
  exact I1.fpOk hle (I1.hok.fresh hle)
/-! ### on data -/
section
variable {P : Program} {w : World} {K : PySem.W.Frag} {sl : Sl} {st : Sto}
/-- a side of a zip, as data: its items -/
def Zd (P : Program) (w : World) (K : PySem.W.Frag) (x : AV) (xs : List Lf) : Prop := ∀ (c : Cf) (v : V), SR K c → Rv K c v x → ∃ (n : Nat) (val : Nat → Option V) (G : Hp → Prop) (src : List Addr) (It : Heap → Addr → Nat → Prop),
  Side P w K v n val G src It ∧ n = xs.length ∧ (∀ c2, Up c c2 → G c2.hp) ∧ ∀ c2 i y l, Up c c2 → val i = some y → xs[i]? = some l → RvL K c2 y l
theorem zd_list {ds : List PyData} : Zd P w K (dL ds) (ds.map Lf.d) := fun c v s r => by
  cases r with
  | @lst a us _ m ea d1 =>
    refine ⟨_, _, _, _, _, side_list (a := a) (xs := us), by rw [List.length_map]; exact d1.len, fun c2 u => Or.inl (Or.inl (u.keep _ _ m ea).2), fun c2 i y l u hy hl => ?_⟩
    obtain ⟨d, hd, dd⟩ := d1.getV i y hy
    rw [List.getElem?_map, hd] at hl
    cases hl
    exact u.rv (x := .d d) dd
theorem zd_tup {ds : List PyData} : Zd P w K (dT ds) (ds.map Lf.d) := fun c v s r => by
  have fin : ∀ {us : List V}, DtA K c.Alive c.hp us ds → ∀ (c2 : Cf) (i : Nat) (y : V) (l : Lf), Up c c2 → us[i]? = some y → (ds.map Lf.d)[i]? = some l → RvL K c2 y l := by
    intro us d1 c2 i y l u hy hl
    obtain ⟨d, hd, dd⟩ := d1.getV i y hy
    rw [List.getElem?_map, hd] at hl
    cases hl
    exact u.rv (x := .d d) dd
  cases r with
  | @tup a us _ m ea d1 => exact ⟨_, _, _, _, _, side_tup (a := a) (xs := us), by rw [List.length_map]; exact d1.len, fun c2 u => Or.inl (Or.inl (u.keep _ _ m ea).2), fin d1⟩
/-- a written tuple -/
theorem zd_raw {a : Addr} {us : List V} (h : ∀ H, SqT K H a us) : Zd P w K (.raw (.ref a)) (us.map Lf.raw) := fun c v s r => by
  cases r
  refine ⟨_, _, _, _, _, side_tup (a := a) (xs := us), by rw [List.length_map], fun c2 u => h _, fun c2 i y l u hy hl => ?_⟩
  rw [List.getElem?_map, hy] at hl
  cases hl
  rfl
theorem zd_str {z : Str} : Zd P w K (dS z) (z.cps.toList.map fun k => Lf.d (.str (S [k]))) := fun c v s r => by
  cases rv_s r
  refine ⟨_, _, _, _, _, side_str (z := z), by simp, fun c2 u => trivial, fun c2 i y l u hy hl => ?_⟩
  rw [List.getElem?_map, Array.getElem?_toList] at hl
  cases hk : z.cps[i]? with
  | none => rw [hk] at hl; cases hl
  | some k =>
    rw [hk] at hl hy
    cases hl
    cases hy
    exact .str _
theorem ei_zipS {ta : TA} {x1 x2 : AV} {xs1 xs2 : List Lf} (h : Ea K ta sl st [x1, x2]) (z1 : Zd P w K x1 xs1) (z2 : Zd P w K x2 xs2) : Ei K (iZipS P w K ta) sl st ((xs1.zip xs2).map fun q => .p [q.1, q.2]) := fun c σ e s S' R q => h c σ e s S' _ fun vs c1 t1 s1 e1 r1 => by
  obtain ⟨v1, v2, rfl, r1, r2⟩ := rvs2 r1
  obtain ⟨n1, val1, G1, src1, It1, S1, l1, g1, p1⟩ := z1 c1 v1 s1 r1
  obtain ⟨n2, val2, G2, src2, It2, S2, l2, g2, p2⟩ := z2 c1 v2 s1 r2
  have hl : ((xs1.zip xs2).map fun q => AV.p [q.1, q.2]).length = min n1 n2 := by rw [List.length_map, List.length_zip, l1, l2]
  have U0 : Up c1 c1 := (Tr.refl c1).up
  refine ⟨v1, v2, n1, n2, val1, val2, G1, G2, src1, src2, It1, It2, rfl, S1, S2, g1 c1 U0, g2 c1 U0, q _ c1 t1 s1 e1 ⟨fun c2 i u s hi => ?_, fun c2 u s => ?_, fun c2 i x v H' u s hx hy => ?_⟩⟩
  · rw [hl] at hi
    exact ⟨by omega, by omega, g1 c2 u, g2 c2 u⟩
  · exact ⟨hl, g1 c2 u, g2 c2 u⟩
  · obtain ⟨T, y1, y2, rfl, hT, rfl, h1, h2⟩ := hy
    rw [List.getElem?_map] at hx
    cases hz : (xs1.zip xs2)[i]? with
    | none => rw [hz] at hx; cases hx
    | some q =>
      obtain ⟨a, b⟩ := q
      rw [hz] at hx
      cases hx
      obtain ⟨ha, hb⟩ := List.getElem?_zip_eq_some.mp hz
      obtain ⟨t2, s2, n2⟩ := tr_new (o := .tup [y1, y2]) s hT
      exact ⟨c2.new T (.tup [y1, y2]), rfl, rfl, t2, s2, T, [y1, y2], rfl, n2, upd_same, .cons (t2.rvL (p1 c2 i y1 a u h1 ha)) (.cons (t2.rvL (p2 c2 i y2 b u h2 hb)) .nil)⟩
end
end AL

set_option Elab.async false
set_option linter.all false
set_option maxRecDepth 100000
set_option maxHeartbeats 4000000
/-! AL14: further rules on data: truth, or, texts repeated, repr, lists changed in place, written tables, calls of a held def. -/
namespace AL
open PySem PySem.Spec PyProof.Rows L2
section
variable {K : PySem.W.Frag} {b : Cf} {sl : Sl} {st : Sto} {te ta tb : TE} {x y z : AV} {e : DE}
/-! ### truth -/
def truD : PyData → Bool
  | .none => false
  | .bool b => b
  | .int i => i != 0
  | .str z => (z.length : Int) != 0
  | .list xs => !xs.isEmpty
  | .tuple xs => !xs.isEmpty
  | .dict _ => false
def smallD : PyData → Prop
  | .str z => z.length ≤ 10000000
  | _ => True
theorem isE {α β : Type} {l : List α} {m : List β} (h : l.length = m.length) : (!l.isEmpty) = !m.isEmpty := by
  cases l <;> cases m <;> simp at h ⊢
theorem tru_rv {c : Cf} {v : V} : ∀ {x : PyData}, smallD x → Rv K c v (.d x) → TruV K v c.hp (truD x)
  | .none, _, r => by cases r; rfl
  | .bool _, _, r => by cases r; rfl
  | .int _, _, r => by cases r; rfl
  | .str z, h, r => by cases r; exact ⟨Nat.le_trans h (by decide), rfl⟩
  | .list ds, _, r => by
    obtain ⟨a, us, rfl, h1, d1⟩ := rv_l r
    exact Or.inl ⟨us, Or.inl (Or.inl h1), (isE d1.len).symm⟩
  | .tuple ds, _, r => by
    obtain ⟨a, us, rfl, h1, d1⟩ := rv_t r
    exact Or.inr (Or.inl ⟨us, h1, (isE d1.len).symm⟩)
  | .dict _, _, r => by cases r
theorem et_tru {d : PyData} (h : Ev K te sl st (.d d)) (hs : smallD d := by trivial) : Et K (fun σ H Q => te σ H fun x H' => ∃ k, TruV K x H' k ∧ Q k H') sl st (truD d) := fun c σ e s S Q q =>
  h c σ e s S _ fun v c1 t1 s1 e1 r1 => ⟨_, tru_rv hs r1, q c1 t1 s1 e1⟩
/-- e or f, by truth -/
theorem ev_orT {d : PyData} (h : Ev K ta sl st (.d d)) (hs : smallD d) (h2 : truD d = false → Ev K tb sl st x) (h1 : truD d = true → x = .d d) : Ev K (tOrT K ta tb) sl st x := fun c σ e s S Q q =>
  h c σ e s S _ fun v c1 t1 s1 e1 r1 => ⟨truD d, tru_rv hs r1, by
    cases hd : truD d with
    | true =>
      rw [if_pos rfl]
      exact q v c1 t1 s1 e1 (by rw [h1 hd]; exact r1)
    | false =>
      rw [if_neg (by decide)]
      exact h2 hd c1 σ e1 s1 (t1.ss S) Q fun w c2 t2 s2 e2 r2 => q w c2 (t1.trans t2) s2 e2 r2⟩
/-! ### one-place operations -/
theorem ev_neg {i : Int} (h : Ev K te sl st (dI i)) : Ev K (tUn (rU fun i => .int (-i)) te) sl st (dI (-i)) := fun c σ e s S Q q => h c σ e s S _ fun v c1 t1 s1 e1 r1 => ⟨i, rv_i r1, q _ c1 t1 s1 e1 (.int _)⟩
/-! ### texts repeated -/
def rMUL : R2 := fun x y H Q => (∃ i j, x = .int i ∧ y = .int j ∧ CMul i j ∧ Q (.int (i * j)) H) ∨ ∃ (z : Str) (n : Nat), x = .str z ∧ y = .int n ∧ n ≤ 1000 ∧ z.length ≤ 1000 ∧ Q (.str (Txt.mul z n)) H
theorem op_MUL {X : Cx} : OpR X (binaryOp .Mult) rMUL := by
  intro pins s σ H x y v u Q I rx ry h
  rcases h with h | ⟨z, n, rfl, rfl, hn, hz, q⟩
  · exact op_mul pins s σ H x y v u Q I rx ry h
  · obtain ⟨t, rfl⟩ := rx
    obtain ⟨t2, rfl⟩ := ry
    exact PySem.SB.mul (mulOk_of 1000 1000 hz (by omega) (by omega) (by decide) (by decide)) fun t' k => ⟨.str _, H, I.tok _, ⟨_, rfl⟩, q⟩
theorem o_mulS {z : Str} {n : Nat} (hn : n ≤ 1000) (hz : z.length ≤ 1000) : Op K rMUL (dS z) (dI n) st (dS (Txt.mul z n)) := fun c v w e s r1 r2 Q q =>
  Or.inr ⟨z, n, rv_s r1, rv_i r2, hn, hz, q _ c (Tr.refl c) s e (.str _)⟩
theorem o_mulI {i j : Int} (h : CMul i j) : Op K rMUL (dI i) (dI j) st (dI (i * j)) := fun c v w e s r1 r2 Q q => Or.inl ⟨i, j, rv_i r1, rv_i r2, h, q _ c (Tr.refl c) s e (.int _)⟩
/-! ### repr -/
def rREPR (K : PySem.W.Frag) : List V → Hp → VK → Prop := fun xs H Q => ∃ x d, xs = [x] ∧ Dp K H x d ∧ d.showable = true ∧ d.depth ≤ 60 ∧ d.shown.length ≤ sizeLine ∧ Q (.str d.shown) H
theorem noDictP : ∀ {d : PyData} {K : PySem.W.Frag} {H : Hp} {v : V}, Dp K H v d → d.hasDict = false
  | .none, _, _, _, _ => by simp only [PyData.hasDict]
  | .bool _, _, _, _, _ => by simp only [PyData.hasDict]
  | .int _, _, _, _, _ => by simp only [PyData.hasDict]
  | .str _, _, _, _, _ => by simp only [PyData.hasDict]
  | .list ds, _, _, _, h => by
    cases h with
    | lst _ a =>
      simp only [PyData.hasDict]
      exact go a
  | .tuple ds, _, _, _, h => by
    cases h with
    | tup _ a =>
      simp only [PyData.hasDict]
      exact go a
  | .dict _, _, _, _, h => by cases h
where
  go : ∀ {ds : List PyData} {K : PySem.W.Frag} {H : Hp} {vs : List V}, DpAll K H vs ds → PyData.hasDictAll ds = false
  | [], _, _, _, _ => by simp only [PyData.hasDictAll]
  | d :: ds, _, _, _, h => by
    cases h with
    | cons h1 h2 =>
      simp only [PyData.hasDictAll, noDictP h1, go h2, Bool.or_self]
theorem call_REPR {X : Cx} (hg : X.A.guards = some []) (hu : X.A.units + 64 < cLine) : CallR X (.builtin "repr") (rREPR X.K) := by
  intro pins s σ H xs us Q I r h
  obtain ⟨x, d, rfl, dp, hs, hd, hz, q⟩ := h
  obtain ⟨u, rfl, rx⟩ := vals1 r
  obtain ⟨as, rd⟩ := Dp.reads I d x u dp rx
  have fin : ∀ a, u = .ref a → wpAny (model X.prog X.w) X.A (call (.builtin "repr") [u]) (EP X pins σ Q) X.xe s := fun a e => by
    subst e
    exact repr_of_reads' rd hs (PyData.noDict_hsm (noDictP dp)) hg (by omega) (fun _ _ e => e) (fun h' u tk hk => ⟨.str _, H, I.kept (t' := tk) hk, ⟨_, rfl⟩, q⟩) hz
  cases dp with
  | non =>
    cases rx
    simp only [PyData.shown] at q
    exact PySem.P.repr_of_none ⟨.str _, H, I.tok _, ⟨_, rfl⟩, q⟩
  | bl b =>
    cases rx
    simp only [PyData.shown] at q
    exact PySem.P.repr_of_bool ⟨.str _, H, I.tok _, ⟨_, rfl⟩, q⟩
  | int i =>
    obtain ⟨t, rfl⟩ := rx
    simp only [PyData.shown] at q
    exact PySem.P.repr_of_int (by simpa [PyData.showable] using hs) ⟨.str _, H, I.tok _, ⟨_, rfl⟩, q⟩
  | str z =>
    obtain ⟨t, rfl⟩ := rx
    simp only [PyData.shown] at q hz
    exact PySem.P.repr_of_str ⟨.str _, H, I.tok _, ⟨_, rfl⟩, q⟩ hz
  | @lst a _ _ _ _ => exact fin a rx
  | @tup a _ _ _ _ => exact fin a rx
theorem o_repr {d : PyData} (h1 : d.showable = true) (h2 : d.depth ≤ 60) (h3 : d.shown.length ≤ sizeLine) : Oc K (rREPR K) [.d d] st (dS d.shown) := fun c vs e s r Q q => by
  obtain ⟨v, rfl, r0⟩ := rvs1 r
  exact ⟨v, d, rfl, Dt.dp _ _ r0, h1, h2, h3, q _ c (Tr.refl c) s e (.str _)⟩
/-! ### a named list changed in place -/
theorem ws_asgG {g : TG} (h : Wx K b te sl st fun x st1 => ∃ sl' js, Eg K g sl x sl' js ∧ e.nx sl' st1) : Ws K b (tAsg te g) sl st e := fun b' hb D d c σ ec tb s S => h c σ ec (hb.trans tb) s S _ fun v c1 x t1 s1 r1 ⟨sl', js, hg, k⟩ =>
  hg c1 σ v s1 (t1.ss S) r1 _ fun σ' S' _ => d.nx c1 σ' sl' (tb.trans t1) s1 S' k
theorem rvs_get {c : Cf} {x : AV} : ∀ {us : List V} {xs : List AV} (j : Nat), Rvs K c us xs → xs[j]? = some x → ∃ u, us[j]? = some u ∧ Rv K c u x
  | _, _, j, .nil, h => by cases j <;> cases h
  | _, _, 0, .cons r _, h => by cases h; exact ⟨_, rfl, r⟩
  | _, _, j + 1, .cons _ t, h => rvs_get j t h
theorem rvs_set {c : Cf} {x : AV} {v : V} : ∀ {us : List V} {xs : List AV} (j : Nat), Rvs K c us xs → Rv K c v x → Rvs K c (us.set j v) (xs.set j x)
  | _, _, _, .nil, _ => .nil
  | _, _, 0, .cons _ t, r => .cons r t
  | _, _, j + 1, .cons r0 t, r => .cons r0 (rvs_set j t r)
/-- l[i] = e, l a named list -/
theorem ws_setL {n : Nat} {to ti : TE} {te : TE} (h : Wx K b te sl st fun x st1 => ∃ (i : Int) (j : Nat) (xs : List AV), Ev K to sl st1 (.o n) ∧ Ev K ti sl st1 (dI i) ∧ st1[n]? = some (.lst xs) ∧ ixN xs.length i = some j ∧ e.nx sl (st1.set n (.lst (xs.set j x)))) :
    Ws K b (tAsg te (gSub to ti rSetL)) sl st e := fun b' hb D d c σ ec tb s S => h c σ ec (hb.trans tb) s S _ fun v c1 x t1 s1 r1 ⟨i, j, xs, ho, hi, hn, hj, k⟩ =>
  ho c1 σ rfl s1 (t1.ss S) _ fun vo c2 t2 s2 e2 r2 => hi c2 σ e2 s2 ((t1.trans t2).ss S) _ fun vi c3 t3 s3 e3 r3 => by
  obtain ⟨a, ia, rfl⟩ := t3.rv (x := .o n) r2
  cases rv_i r3
  have hn3 : c3.st[n]? = some (.lst xs) := by rw [e3]; exact hn
  obtain ⟨us, h1, d1⟩ := s3.ob n a _ ia hn3
  have hl : us.length = xs.length := d1.length
  refine ⟨a, us, i, j, rfl, rfl, h1, by rw [hl]; exact hj, ?_⟩
  have T := ((tb.trans t1).trans t2).trans t3
  have t4 := tr_put (ho := .lst (us.set j v)) (o := .lst (xs.set j x)) s3 ia hn3 (by intro z; cases z)
  have s4 : SR K (c3.put n a (.lst (us.set j v)) (.lst (xs.set j x))) := sr_put s3 ia hn3 (by intro z; cases z) ⟨_, upd_same, rvs_set j (t4.rvs d1) (((t2.trans t3).trans t4).rv r1)⟩
  exact d.nx (c3.put n a (.lst (us.set j v)) (.lst (xs.set j x))) σ sl (T.trans t4) s4 ((((t1.trans t2).trans t3).trans t4).ss S) (by
    show e.nx sl (c3.st.set n _)
    rw [e3]; exact k)
/-- l.append(e), l a named list -/
theorem ws_app {n : Nat} {to : TE} (ho : Ev K to sl st (.o n)) (h : Wx K b te sl st fun x st1 => ∃ xs : List AV, st1[n]? = some (.lst xs) ∧ xs.length ≤ 10000000 ∧ e.nx sl (st1.set n (.lst (xs ++ [x])))) (hs : ∃ ys, st[n]? = some (.lst ys)) :
    Ws K b (tDrop (tBM K "list" rAppend to (tCons te tNil))) sl st e := fun b' hb D d c σ ec tb s S =>
  ho c σ ec s S _ fun vo c1 t1 s1 e1 r1 => by
  obtain ⟨a, ia, rfl⟩ := r1
  obtain ⟨ys, hy⟩ := hs
  obtain ⟨us0, h0, _⟩ := s1.ob n a _ ia (by rw [e1]; exact hy)
  refine ⟨Or.inl ⟨rfl, us0, Or.inl (Or.inl h0)⟩, h c1 σ e1 ((hb.trans tb).trans t1) s1 (t1.ss S) _ fun v c2 x t2 s2 r2 ⟨xs, hn, hz, k⟩ => ?_⟩
  have ia2 := t2.idx ia
  obtain ⟨us, h1, d1⟩ := s2.ob n a _ ia2 hn
  have hl : us.length = xs.length := d1.length
  refine ⟨a, us, v, rfl, rfl, h1, Nat.lt_of_le_of_lt (by rw [hl]; exact hz) (by rw [sizeLine_eq]; decide), ?_⟩
  have t4 := tr_put (ho := .lst (us ++ [v])) (o := .lst (xs ++ [x])) s2 ia2 hn (by intro z; cases z)
  have s4 : SR K (c2.put n a (.lst (us ++ [v])) (.lst (xs ++ [x]))) := sr_put s2 ia2 hn (by intro z; cases z) ⟨_, upd_same, paired_app (t4.rvs d1) (.cons (t4.rv r2) .nil)⟩
  exact d.nx (c2.put n a (.lst (us ++ [v])) (.lst (xs ++ [x]))) σ sl (((tb.trans t1).trans t2).trans t4) s4 (((t1.trans t2).trans t4).ss S) k
/-! ### written tables with text keys -/
def rNotInF (K : PySem.W.Frag) (d : Addr) : R2 := fun x y H Q => ∃ (z : Str) (r : Option Value), x = .str z ∧ y = .ref d ∧ PySem.W.nsIn K d z = some r ∧ Q (.bl (!r.isSome)) H
theorem o_notInF {d : Addr} {z : Str} {r : Option Value} (h : PySem.W.nsIn K d z = some r) : Op K (rNotInF K d) (dS z) (.raw (.ref d)) st (dB (!r.isSome)) := fun c v w e s r1 r2 Q q =>
  ⟨z, r, rv_s r1, r2, h, q _ c (Tr.refl c) s e (.bl _)⟩
theorem o_ixF {w : World} {d : Addr} {z : Str} {v0 : V} (h : KDct K w d z v0) : Op K (rIxD K w) (.raw (.ref d)) (dS z) st (.raw v0) := fun c v w' e s r1 r2 Q q =>
  ⟨d, z, v0, r1, rv_s r2, h, q _ c (Tr.refl c) s e rfl⟩
theorem o_lenK {a : Addr} {us : List V} (h : ∀ H, SqT K H a us) : Oc K (rLEN K) [.raw (.ref a)] st (dI us.length) := fun c vs e s r Q q => by
  obtain ⟨v, rfl, r0⟩ := rvs1 r
  cases r0
  exact ⟨_, us.length, rfl, Or.inr ⟨us, h _, rfl⟩, q _ c (Tr.refl c) s e (.int _)⟩
/-! ### a def held in a slot -/
structure HeldD (P : Program) (w : World) (K : PySem.W.Frag) (mg : Str → Option Value) (base : Heap) (k : Nat) (f : Addr) (sp : Sp) : Prop where
  ex : ∃ (fd : FuncData) (ps : List Str), FnOk P w K mg base (L2.CX P w) k f fd ps sp ∧ PySem.W.keepIn K (.ref f) = true ∧ Binds K fd ps []
def tCallH (i : Nat) (S : Addr → Option DS) (K : PySem.W.Frag) (W : WX) (t : TA) : TE := fun σ H Q => ∃ f F, σ[i]? = some (some (.ref f)) ∧ S f = some F ∧ t σ H fun vs H1 => spD K F vs H1 Q (wE W σ)
theorem pe_callH {X : Cx} {k j i : Nat} {S : Addr → Option DS} {W : WX} {x : Str} {p pos : Pos} {ex : Expr} {es : List Expr} {t : TA} (A : ∀ f F, S f = some F → HeldD X.prog X.w X.K X.mg X.base k f (spD X.K F)) (hr : Room j X.A) (tk : Takes X W) (ha : PA X (ex :: es) t) (hk : k ≤ j := by decide)
    (hN : X.N[i]? = some x := by rfl) (hv : Vis X.env.scope x := by first | exact Or.inl rfl | exact Or.inr (Or.inl rfl) | exact Or.inr (Or.inr rfl))
    (hdb : (x == ("__debug__" : Str)) = false := by decide) (hcd : (x == ("__classdict__" : Str)) = false := by decide)
    (he : starEach (ex :: es) X.env = (false, eval ex X.env) :: starEach es X.env := by rfl) (hpl : (backTo pos (starEach es X.env)).any (·.1) = false := by rfl) : PE X (.Call (.Name x p) (ex :: es) [] pos) (tCallH i S X.K W t) := by
  refine ⟨fun pins s σ H Q I h => ?_⟩
  obtain ⟨f, F, hs, hS, ht⟩ := h
  obtain ⟨fd, ps, FF, hkp, hb⟩ := (A f F hS).ex
  refine wpAny_Call_Name_kw (thn ((pe_var (pos := p) hN hv hdb hcd).run pins s σ H (fun v H1 => v = .ref f ∧ H1 = H) I ⟨.ref f, hs, rfl, rfl⟩) fun u s1 ⟨v, H1, I1, r1, q1⟩ => ?_)
  obtain ⟨rfl, rfl⟩ := q1
  cases r1
  refine PySem.W.callWith_K (h₀ := X.base) I.ok.mod.kin hkp (thn (ha.run pos pins s1 σ _ _ I1 ht) fun us s2 ⟨vs, H2, I2, r, q⟩ => ⟨I2.kIn, ?_⟩) he hpl
  have := run_w (us := us) (vs := vs) (dvs := []) (ds := []) FF (hr.mono hk) hb .nil tk I2 r (by rw [List.append_nil]; exact q)
  exact this
theorem ev_callH {i : Nat} {f : Addr} {S : Addr → Option DS} {F : DS} {W : WX} {ta : TA} {xs : List AV} (hi : sl[i]? = some (some (.raw (.ref f)))) (hS : S f = some F) (ha : Ea K ta sl st xs) (hf : F xs st (fun y st' => y = x ∧ st' = st) (fun _ _ => False)) : Ev K (tCallH i S K W ta) sl st x := fun c σ e s S' Q q => by
  obtain ⟨v, h1, h2⟩ := S'.2 i _ hi
  cases h2
  refine ⟨f, F, h1, hS, ha c σ e s S' _ fun vs c1 t1 s1 e1 r1 => ⟨c1, xs, _, _, rfl, s1, r1, by rw [e1]; exact hf, fun v c2 y t2 s2 r2 k => ?_, fun cls d c2 a t2 s2 r2 k => False.elim k⟩⟩
  obtain ⟨k1, k2⟩ := k
  subst k1
  exact q v c2 (t1.trans t2) s2 k2 r2
end
end AL

set_option Elab.async false
set_option linter.all false
set_option maxRecDepth 100000
set_option maxHeartbeats 4000000
/-! AL15: named dicts with int and text keys. -/
namespace AL
open PySem PySem.Spec PyProof.Rows L2
def valA (kvs : List (Key × AV)) (k : Key) : Option AV := (kvs.find? fun kv => decide (kv.1 = k)).map (·.2)
def putA (kvs : List (Key × AV)) (k : Key) (v : AV) : List (Key × AV) := if (kvs.any fun kv => decide (kv.1 = k)) = true then kvs.map (fun kv => if kv.1 = k then (kv.1, v) else kv) else kvs ++ [(k, v)]
def mergeA (kvs more : List (Key × AV)) : List (Key × AV) := more.foldl (fun acc kv => putA acc kv.1 kv.2) kvs
/-- a key as data -/
def kD : Key → PyData
  | .inl i => .int i
  | .inr z => .str z
section
variable {K : PySem.W.Frag} {b : Cf} {sl : Sl} {st : Sto} {te td ty tv : TE} {x y z : AV} {e : DE} {c : Cf}
theorem rk_any (k : Key) : ∀ {ws : List (Key × V)} {kvs : List (Key × AV)}, Rk K c ws kvs → (ws.any fun kv => decide (kv.1 = k)) = (kvs.any fun kv => decide (kv.1 = k))
  | _, _, .nil => rfl
  | (_, _) :: _, (_, _) :: _, .cons r t => by
    have e := r.1
    simp only [List.any_cons, rk_any k t] at e ⊢
    rw [e]
theorem rk_val (k : Key) : ∀ {ws : List (Key × V)} {kvs : List (Key × AV)}, Rk K c ws kvs → match valA kvs k with
    | some x => ∃ v, valV ws k = some v ∧ Rv K c v x
    | none => valV ws k = none
  | _, _, .nil => rfl
  | (k1, v1) :: ws, (k2, x2) :: kvs, .cons r t => by
    obtain ⟨r1, r2⟩ := r
    have r1 : k1 = k2 := r1
    subst r1
    have ih := rk_val k t
    unfold valA valV at ih ⊢
    by_cases h : k1 = k
    · subst h
      simp only [List.find?_cons, decide_true, Option.map_some]
      exact ⟨v1, rfl, r2⟩
    · simp only [List.find?_cons, h, decide_false]
      exact ih
theorem rk_put (k : Key) {v : V} {x : AV} (rv : Rv K c v x) {ws : List (Key × V)} {kvs : List (Key × AV)} (r : Rk K c ws kvs) : Rk K c (putK ws k v) (putA kvs k x) := by
  have m : ∀ {ws : List (Key × V)} {kvs : List (Key × AV)}, Rk K c ws kvs → Rk K c (ws.map fun kv => if kv.1 = k then (kv.1, v) else kv) (kvs.map fun kv => if kv.1 = k then (kv.1, x) else kv) := by
    intro ws kvs r
    induction r with
    | nil => exact .nil
    | @cons p q _ _ h _ ih =>
      obtain ⟨h1, h2⟩ := h
      refine .cons ?_ ih
      dsimp only
      by_cases hk : p.1 = k
      · rw [if_pos hk, if_pos (h1 ▸ hk)]
        exact ⟨h1, rv⟩
      · rw [if_neg hk, if_neg (h1 ▸ hk)]
        exact ⟨h1, h2⟩
  unfold putK putA
  rw [rk_any k r]
  by_cases h : (kvs.any fun kv => decide (kv.1 = k)) = true
  · rw [if_pos h, if_pos h]
    exact m r
  · rw [if_neg h, if_neg h]
    exact paired_app r (.cons ⟨rfl, rv⟩ .nil)
theorem kd_rv {v : V} {k : Key} (r : Rv K c v (.d (kD k))) : v = kV k := by
  cases k with
  | inl i => exact rv_i r
  | inr s => exact rv_s r
/-- d[k] -/
theorem ev_dget {n : Nat} {k : Key} {kvs : List (Key × AV)} (hd : Ev K td sl st (.o n)) (hk : Ev K ty sl st (.d (kD k))) (hn : st[n]? = some (.dk kvs)) (hv : valA kvs k = some x) : Ev K (tDGet td ty) sl st x := fun c σ e s S Q q =>
  hd c σ e s S _ fun v c1 t1 s1 e1 r1 => hk c1 σ e1 s1 (t1.ss S) _ fun w c2 t2 s2 e2 r2 => by
  obtain ⟨a, ia, rfl⟩ := t2.rv (x := .o n) r1
  obtain ⟨ws, h1, d1⟩ := s2.ob n a _ ia (by rw [e2]; exact hn)
  have hh := rk_val k d1
  rw [hv] at hh
  obtain ⟨u, hu, ru⟩ := hh
  exact ⟨a, u, rfl, Or.inl ⟨ws, k, Or.inl h1, kd_rv r2, hu.symm⟩, q u c2 (t1.trans t2) s2 e2 ru⟩
/-- k in d, k not in d -/
theorem ev_din {n : Nat} {k : Key} {kvs : List (Key × AV)} (hk : Ev K ty sl st (.d (kD k))) (hd : Ev K td sl st (.o n)) (hn : st[n]? = some (.dk kvs)) : Ev K (tDIn ty td) sl st (dB (valA kvs k).isSome) := fun c σ e s S Q q =>
  hk c σ e s S _ fun w c1 t1 s1 e1 r1 => hd c1 σ e1 s1 (t1.ss S) _ fun v c2 t2 s2 e2 r2 => by
  obtain ⟨a, ia, rfl⟩ := r2
  obtain ⟨ws, h1, d1⟩ := s2.ob n a _ ia (by rw [e2]; exact hn)
  have hh := rk_val k d1
  refine ⟨a, valV ws k, rfl, Or.inl ⟨ws, k, Or.inl h1, kd_rv (t2.rv (x := .d (kD k)) r1), rfl⟩, ?_⟩
  have e3 : (valV ws k).isSome = (valA kvs k).isSome := by
    cases hv : valA kvs k with
    | none => rw [hv] at hh; rw [hh]; rfl
    | some x => rw [hv] at hh; obtain ⟨u, hu, _⟩ := hh; rw [hu]; rfl
  rw [e3]
  exact q _ c2 (t1.trans t2) s2 e2 (.bl _)
theorem ev_dnotin {n : Nat} {k : Key} {kvs : List (Key × AV)} (hk : Ev K ty sl st (.d (kD k))) (hd : Ev K td sl st (.o n)) (hn : st[n]? = some (.dk kvs)) : Ev K (tDNotIn ty td) sl st (dB (!(valA kvs k).isSome)) := fun c σ e s S Q q =>
  hk c σ e s S _ fun w c1 t1 s1 e1 r1 => hd c1 σ e1 s1 (t1.ss S) _ fun v c2 t2 s2 e2 r2 => by
  obtain ⟨a, ia, rfl⟩ := r2
  obtain ⟨ws, h1, d1⟩ := s2.ob n a _ ia (by rw [e2]; exact hn)
  have hh := rk_val k d1
  refine ⟨a, valV ws k, rfl, Or.inl ⟨ws, k, Or.inl h1, kd_rv (t2.rv (x := .d (kD k)) r1), rfl⟩, ?_⟩
  have e3 : (valV ws k).isSome = (valA kvs k).isSome := by
    cases hv : valA kvs k with
    | none => rw [hv] at hh; rw [hh]; rfl
    | some x => rw [hv] at hh; obtain ⟨u, hu, _⟩ := hh; rw [hu]; rfl
  rw [e3]
  exact q _ c2 (t1.trans t2) s2 e2 (.bl _)
/-- d[k] = e -/
theorem ws_dput {n : Nat} (h : Wx K b tv sl st fun x st1 => ∃ (k : Key) (kvs : List (Key × AV)), Ev K td sl st1 (.o n) ∧ Ev K ty sl st1 (.d (kD k)) ∧ st1[n]? = some (.dk kvs) ∧ kvs.length ≤ 10000000 ∧ e.nx sl (st1.set n (.dk (putA kvs k x)))) :
    Ws K b (sDPut td ty tv) sl st e := fun b' hb D d c σ ec tb s S => h c σ ec (hb.trans tb) s S _ fun v c1 x t1 s1 r1 ⟨k, kvs, ho, hk, hn, hz, q⟩ =>
  ho c1 σ rfl s1 (t1.ss S) _ fun vo c2 t2 s2 e2 r2 => hk c2 σ e2 s2 ((t1.trans t2).ss S) _ fun vi c3 t3 s3 e3 r3 => by
  obtain ⟨a, ia, rfl⟩ := t3.rv (x := .o n) r2
  have hn3 : c3.st[n]? = some (.dk kvs) := by rw [e3]; exact hn
  obtain ⟨ws, h1, d1⟩ := s3.ob n a _ ia hn3
  have hl : ws.length = kvs.length := d1.length
  have t4 := tr_put (ho := .dK (putK ws k v)) (o := .dk (putA kvs k x)) s3 ia hn3 (by intro z; cases z)
  have s4 : SR K (c3.put n a (.dK (putK ws k v)) (.dk (putA kvs k x))) := sr_put s3 ia hn3 (by intro z; cases z) ⟨_, upd_same, rk_put k (((t2.trans t3).trans t4).rv r1) (paired_imp (fun _ _ r => ⟨r.1, t4.rv r.2⟩) d1)⟩
  refine ⟨a, _, rfl, Or.inl ⟨ws, k, h1, kd_rv r3, Nat.lt_of_le_of_lt (by rw [hl]; exact hz) (by rw [sizeLine_eq]; decide), rfl⟩, ?_⟩
  exact d.nx (c3.put n a (.dK (putK ws k v)) (.dk (putA kvs k x))) σ sl ((((tb.trans t1).trans t2).trans t3).trans t4) s4 ((((t1.trans t2).trans t3).trans t4).ss S) (by
    show e.nx sl (c3.st.set n _)
    rw [e3]; exact q)
/-- the pairs of a display -/
inductive EvP (K : PySem.W.Frag) (sl : Sl) (st : Sto) : List (TE × TE) → List (Key × AV) → Prop
  | nil : EvP K sl st [] []
  | cons {tk tv : TE} {k : Key} {x : AV} {trs : List (TE × TE)} {ps : List (Key × AV)} : Ev K tk sl st (.d (kD k)) → Ev K tv sl st x → EvP K sl st trs ps → EvP K sl st ((tk, tv) :: trs) ((k, x) :: ps)
theorem evp_run {trs : List (TE × TE)} {ps : List (Key × AV)} (h : EvP K sl st trs ps) : ∀ (c : Cf) (σ : L2.St), c.st = st → SR K c → SS K c σ sl → ∀ Q : List (V × V) → Hp → Prop,
    (∀ (ws : List (Key × V)) c', Tr c c' → SR K c' → c'.st = st → Rk K c' ws ps → Q (ws.map fun kv => (kV kv.1, kv.2)) c'.hp) → tPairs trs σ c.hp Q := by
  induction h with
  | nil => exact fun c σ e s S Q q => q [] c (Tr.refl c) s e .nil
  | @cons tk tv k x trs ps h1 h2 _ ih =>
    intro c σ e s S Q q
    refine h1 c σ e s S _ fun u c1 t1 s1 e1 r1 => h2 c1 σ e1 s1 (t1.ss S) _ fun v c2 t2 s2 e2 r2 => ih c2 σ e2 s2 ((t1.trans t2).ss S) _ fun ws c3 t3 s3 e3 r3 => ?_
    have := q ((k, v) :: ws) c3 ((t1.trans t2).trans t3) s3 e3 (.cons ⟨rfl, t3.rv r2⟩ r3)
    rw [kd_rv r1]
    exact this
theorem rk_merge {more : List (Key × V)} {mA : List (Key × AV)} (r : Rk K c more mA) : ∀ {ws : List (Key × V)} {kvs : List (Key × AV)}, Rk K c ws kvs → Rk K c (mergeK ws more) (mergeA kvs mA) := by
  unfold Rk at r
  induction r with
  | nil => exact fun q => q
  | @cons p q ps qs h t ih =>
    intro ws kvs r0
    obtain ⟨h1, h2⟩ := h
    have := ih (rk_put q.1 h2 r0)
    show Rk K c (mergeK (putK ws p.1 p.2) ps) (mergeA (putA kvs q.1 q.2) qs)
    rw [h1]
    exact this
/-- {k: v, ..} as a named dict -/
theorem wx_disp {Φ : AV → Sto → Prop} {trs : List (TE × TE)} {ps : List (Key × AV)} (h : EvP K sl (st ++ [.dk []]) trs ps) (hl : ps.length ≤ 15) (k : Φ (.o st.length) (st ++ [.dk (mergeA [] ps)])) : Wx K b (tDisp trs) sl st Φ := fun c σ e tb s S Q q p hp => by
  have t1 := tr_add (ho := .dK []) (o := .dk []) s hp
  have s1 : SR K (c.add p (.dK []) (.dk [])) := sr_add s hp ⟨[], upd_same, .nil⟩
  have i1 : (c.add p (.dK []) (.dk [])).al[st.length]? = some p := by rw [← e]; exact add_idx s
  refine evp_run h (c.add p (.dK []) (.dk [])) σ (by show c.st ++ _ = _; rw [e]) s1 (t1.ss S) _ fun ws c2 t2 s2 e2 r2 => ?_
  have i2 := t2.idx i1
  have n2 : c2.st[st.length]? = some (.dk []) := by rw [e2]; simp
  obtain ⟨ws0, h0, d0⟩ := s2.ob _ p _ i2 n2
  cases d0
  refine ⟨h0, ws, rfl, by rw [show ws.length = ps.length from r2.length]; exact hl, ?_⟩
  have t4 := tr_put (ho := .dK (mergeK [] ws)) (o := .dk (mergeA [] ps)) s2 i2 n2 (by intro z; cases z)
  have s4 : SR K (c2.put st.length p (.dK (mergeK [] ws)) (.dk (mergeA [] ps))) := sr_put s2 i2 n2 (by intro z; cases z) ⟨_, upd_same, rk_merge (paired_imp (fun _ _ r => ⟨r.1, t4.rv r.2⟩) r2) .nil⟩
  refine q (.ref p) (c2.put st.length p (.dK (mergeK [] ws)) (.dk (mergeA [] ps))) (.o st.length) ((t1.trans t2).trans t4) s4 ⟨p, t4.idx i2, rfl⟩ ?_
  show Φ _ (c2.st.set st.length _)
  rw [e2]
  have : (st ++ [AO.dk []]).set st.length (.dk (mergeA [] ps)) = st ++ [.dk (mergeA [] ps)] := by simp
  rw [this]
  exact k
end
end AL

set_option Elab.async false
set_option linter.all false
set_option maxRecDepth 100000
set_option maxHeartbeats 4000000
/-! AL16: the rules in short, for printed terms. -/
namespace AL
open PySem PySem.Spec PyProof.Rows L2
def rLE : R2 := fun x y H Q => (rI0 fun i j => .bl (decide (i ≤ j))) x y H Q ∨ ∃ i j, x = .str i ∧ y = .str j ∧ Q (.bl (!decide (j.cps.toList < i.cps.toList))) H
theorem op_LE {X : Cx} : OpR X (compareOp .LtE) rLE := op_le.or op_le_str
/-- == of scalars, of data -/
def rEQ (K : PySem.W.Frag) : R2 := fun x y H Q => rEq x y H Q ∨ rEqD K x y H Q
def rNE (K : PySem.W.Frag) : R2 := fun x y H Q => rNe x y H Q ∨ rNeD K x y H Q
theorem op_EQ {X : Cx} (hu : X.A.units + 64 < cLine) : OpR X (compareOp .Eq) (rEQ X.K) := op_eq.or (op_eqD hu)
theorem op_NE {X : Cx} (hu : X.A.units + 64 < cLine) : OpR X (compareOp .NotEq) (rNE X.K) := op_ne.or (op_neD hu)
abbrev rFDIV : R2 := rI CDiv fun i j => .int (i / j)
abbrev rMOD : R2 := rI (fun _ j => 0 < j) fun i j => .int (i % j)
abbrev rPOW : R2 := rI CPow fun i j => .int (i ^ j.toNat)
abbrev rSUB : R2 := rI0 fun i j => .int (i - j)
section
variable {X : Cx} {e e2 o : Expr} {es : List Expr} {te te2 to ty td : TE} {ta : TA} {p p2 pos apos cpos : Pos}
theorem x_eq {K : PySem.W.Frag} (hu : X.A.units + 64 < cLine) (ha : PE X e te) (hb : PE X e2 te2) (hK : X.K = K := by rfl) : PE X (.Compare e [.Eq] [e2] pos) (tOp (rEQ K) te te2) := by
  subst hK
  exact pe_cmpR (op_EQ hu) ha hb (nomark _)
theorem x_ne {K : PySem.W.Frag} (hu : X.A.units + 64 < cLine) (ha : PE X e te) (hb : PE X e2 te2) (hK : X.K = K := by rfl) : PE X (.Compare e [.NotEq] [e2] pos) (tOp (rNE K) te te2) := by
  subst hK
  exact pe_cmpR (op_NE hu) ha hb (nomark _)
theorem x_lt (ha : PE X e te) (hb : PE X e2 te2) : PE X (.Compare e [.Lt] [e2] pos) (tOp (rI0 fun i j => .bl (decide (i < j))) te te2) := pe_cmpR op_lt ha hb (nomark _)
theorem x_le (ha : PE X e te) (hb : PE X e2 te2) : PE X (.Compare e [.LtE] [e2] pos) (tOp rLE te te2) := pe_cmpR op_LE ha hb (nomark _)
theorem x_gt (ha : PE X e te) (hb : PE X e2 te2) : PE X (.Compare e [.Gt] [e2] pos) (tOp (rI0 fun i j => .bl (decide (j < i))) te te2) := pe_cmpR op_gt ha hb (nomark _)
theorem x_ge (ha : PE X e te) (hb : PE X e2 te2) : PE X (.Compare e [.GtE] [e2] pos) (tOp (rI0 fun i j => .bl (decide (j ≤ i))) te te2) := pe_cmpR op_ge ha hb (nomark _)
theorem x_inS (ha : PE X e te) (hb : PE X e2 te2) (hm : behindInMarks .In e2 = false := by with_unfolding_all rfl) : PE X (.Compare e [.In] [e2] pos) (tOp rInS te te2) := pe_cmpR op_inS ha hb hm
theorem x_niS (ha : PE X e te) (hb : PE X e2 te2) (hm : behindInMarks .NotIn e2 = false := by with_unfolding_all rfl) : PE X (.Compare e [.NotIn] [e2] pos) (tOp rNotInS te te2) := pe_cmpR op_notInS ha hb hm
theorem x_niF {K : PySem.W.Frag} {d : Addr} (D : ∃ es n, KDict X.K X.w d es n) (ha : PE X e te) (hb : PE X e2 te2) (hm : behindInMarks .NotIn e2 = false := by with_unfolding_all rfl) (hK : X.K = K := by rfl) : PE X (.Compare e [.NotIn] [e2] pos) (tOp (rNotInF K d) te te2) := by
  subst hK
  obtain ⟨es, n, D⟩ := D
  exact pe_cmpR (op_notIn_kd D) ha hb hm
theorem x_niD (hu : X.A.units + 64 < cLine) (ha : PE X e ty) (hb : PE X e2 td) (hm : behindInMarks .NotIn e2 = false := by with_unfolding_all rfl) : PE X (.Compare e [.NotIn] [e2] pos) (tDNotIn ty td) := pe_cmp (pc_dnotin (by omega) ha hb) hm
theorem x_inD (hu : X.A.units + 64 < cLine) (ha : PE X e ty) (hb : PE X e2 td) (hm : behindInMarks .In e2 = false := by with_unfolding_all rfl) : PE X (.Compare e [.In] [e2] pos) (tDIn ty td) := pe_cmp (pc_din (by omega) ha hb) hm
theorem x_isN (ha : PE X e te) (hb : PE X e2 te2) : PE X (.Compare e [.Is] [e2] pos) (tOp rIsN te te2) := pe_cmpR op_isN1 ha hb (nomark _)
theorem x_notN (ha : PE X e te) (hb : PE X e2 te2) : PE X (.Compare e [.IsNot] [e2] pos) (tOp rNotN te te2) := pe_cmpR op_notN1 ha hb (nomark _)
theorem x_add {K : PySem.W.Frag} (ha : PE X e te) (hb : PE X e2 te2) (hK : X.K = K := by rfl) : PE X (.BinOp e .Add e2 pos) (tOp (rADD K) te te2) := by
  subst hK
  exact pe_op op_ADD ha hb
theorem x_sub (ha : PE X e te) (hb : PE X e2 te2) : PE X (.BinOp e .Sub e2 pos) (tOp rSUB te te2) := pe_op op_sub ha hb
theorem x_mul (ha : PE X e te) (hb : PE X e2 te2) : PE X (.BinOp e .Mult e2 pos) (tOp rMUL te te2) := pe_op op_MUL ha hb
theorem x_fdiv (ha : PE X e te) (hb : PE X e2 te2) : PE X (.BinOp e .FloorDiv e2 pos) (tOp rFDIV te te2) := pe_op op_fdiv ha hb
theorem x_mod (ha : PE X e te) (hb : PE X e2 te2) : PE X (.BinOp e .Mod e2 pos) (tOp rMOD te te2) := pe_op op_mod ha hb
theorem x_pow (ha : PE X e te) (hb : PE X e2 te2) : PE X (.BinOp e .Pow e2 pos) (tOp rPOW te te2) := pe_op op_pow ha hb
theorem x_neg (ha : PE X e te) : PE X (.UnaryOp .USub e pos) (tUn (rU fun i => .int (-i)) te) := pe_un un_neg ha
theorem x_ix {K : PySem.W.Frag} (ha : PE X e te) (hb : PE X e2 te2) (hs : PlainIx e2 := by intro _ _; rfl) (hK : X.K = K := by rfl) : PE X (.Subscript e e2 pos) (tOp (rIx K) te te2) := by
  subst hK
  exact pe_ix ix_seq ha hb hs
theorem x_ixF {K : PySem.W.Frag} (ha : PE X e te) (hb : PE X e2 te2) (hs : PlainIx e2 := by intro _ _; rfl) (hK : X.K = K := by rfl) : PE X (.Subscript e e2 pos) (tOp (rIxD K X.w) te te2) := by
  subst hK
  exact pe_ix ix_kdict ha hb hs
theorem x_dget (hu : X.A.units + 64 < cLine) (ha : PE X e td) (hb : PE X e2 ty) (hs : NoSl e2 := by intro _ _; rfl) : PE X (.Subscript e e2 pos) (tDGet td ty) := pe_dget (by omega) ha hb hs
theorem x_sl {K : PySem.W.Frag} {lo hi : Option Expr} {tl th : TO} {p2 : Pos} (he : PE X e te) (hl : PO X lo tl) (hu : PO X hi th) (hK : X.K = K := by rfl) : PE X (.Subscript e (.Slice lo hi none p2) pos) (tSl (rSL K) te tl th) := by
  subst hK
  exact pe_slice sl_SL he hl hu
theorem x_tuple {K : PySem.W.Frag} (B : BT X.mg) (ha : PE X e te) (hg : Gl X "tuple" := by rfl) (hs : starEach [e] X.env = (false, eval e X.env) :: starEach [] X.env := by rfl) (hK : X.K = K := by rfl) : PE X (.Call (.Name "tuple" p) [e] [] pos) (tCB (rTUP K) (tCons te tNil)) := by
  subst hK
  exact pe_callTy call_tuple_of hg B.tuple PyProof.Rows.boot_tuple (pa_cons ha pa_nil hs) (by decide) (by decide) hs
def rSTRs : List V → Hp → VK → Prop := fun xs H Q => (∃ i : Int, xs = [.int i] ∧ i.natAbs.log2 < 1920 ∧ Q (.str (toString i)) H) ∨ ∃ a, xs = [.str a] ∧ Q (.str a) H
theorem call_STRs {X : Cx} : CallR X (.type "str") rSTRs := call_str_int.or SkE.call_str_str
theorem x_str (B : BT X.mg) (ha : PE X e te) (hg : Gl X "str" := by rfl) (hs : starEach [e] X.env = (false, eval e X.env) :: starEach [] X.env := by rfl) : PE X (.Call (.Name "str" p) [e] [] pos) (tCB rSTRs (tCons te tNil)) :=
  pe_callTy call_STRs hg B.str PyProof.Rows.boot_str (pa_cons ha pa_nil hs) (by decide) (by decide) hs
theorem x_int (B : BT X.mg) (ha : PE X e te) (hg : Gl X "int" := by rfl) (hs : starEach [e] X.env = (false, eval e X.env) :: starEach [] X.env := by rfl) : PE X (.Call (.Name "int" p) [e] [] pos) (tCB rINT (tCons te tNil)) :=
  pe_callTy call_INT hg B.int PyProof.Rows.boot_int (pa_cons ha pa_nil hs) (by decide) (by decide) hs
theorem x_repr {K : PySem.W.Frag} (B : BT X.mg) (hgu : X.A.guards = some []) (hu : X.A.units + 64 < cLine) (ha : PE X e te) (hg : Gl X "repr" := by rfl) (hs : starEach [e] X.env = (false, eval e X.env) :: starEach [] X.env := by rfl) (hK : X.K = K := by rfl) : PE X (.Call (.Name "repr" p) [e] [] pos) (tCB (rREPR K) (tCons te tNil)) := by
  subst hK
  exact pe_callB (call_REPR hgu hu) hg B.repr PyProof.Rows.boot_repr (pa_cons ha pa_nil hs) (by decide) (by decide) hs
theorem x_isX {K : PySem.W.Frag} (B : BT X.mg) (ha : PE X e te) (ha2 : PE X e2 te2) (hg : Gl X "isinstance" := by rfl)
    (hs1 : starEach [e, e2] X.env = (false, eval e X.env) :: starEach [e2] X.env := by rfl) (hs2 : starEach [e2] X.env = (false, eval e2 X.env) :: starEach [] X.env := by rfl) (hpl : (backTo pos (starEach [e2] X.env)).any (·.1) = false := by rfl) (hK : X.K = K := by rfl) :
    PE X (.Call (.Name "isinstance" p) [e, e2] [] pos) (tCB (rIsX K) (tCons te (tCons te2 tNil))) := by
  subst hK
  exact pe_callB call_isX hg B.isinstance PyProof.Rows.boot_isinstance (pa_cons ha (pa_cons ha2 pa_nil hs2) hs1) (by decide) (by decide) hs1 hpl
def rMAX2 : List V → Hp → VK → Prop := fun xs H Q => ∃ i j, xs = [.int i, .int j] ∧ Q (.int (if j > i then j else i)) H
def rMIN2 : List V → Hp → VK → Prop := fun xs H Q => ∃ i j, xs = [.int i, .int j] ∧ Q (.int (if j < i then j else i)) H
theorem x_max2 (B : BT X.mg) (ha : PE X e te) (ha2 : PE X e2 te2) (hc : X.calm = true := by rfl) (hg : Gl X "max" := by rfl)
    (hs1 : starEach [e, e2] X.env = (false, eval e X.env) :: starEach [e2] X.env := by rfl) (hs2 : starEach [e2] X.env = (false, eval e2 X.env) :: starEach [] X.env := by rfl) (hpl : (backTo pos (starEach [e2] X.env)).any (·.1) = false := by rfl) :
    PE X (.Call (.Name "max" p) [e, e2] [] pos) (tCB rMAX2 (tCons te (tCons te2 tNil))) :=
  pe_callB (call_max2 hc) hg B.max PyProof.Rows.boot_max (pa_cons ha (pa_cons ha2 pa_nil hs2) hs1) (by decide) (by decide) hs1 hpl
theorem x_min2 (B : BT X.mg) (ha : PE X e te) (ha2 : PE X e2 te2) (hc : X.calm = true := by rfl) (hg : Gl X "min" := by rfl)
    (hs1 : starEach [e, e2] X.env = (false, eval e X.env) :: starEach [e2] X.env := by rfl) (hs2 : starEach [e2] X.env = (false, eval e2 X.env) :: starEach [] X.env := by rfl) (hpl : (backTo pos (starEach [e2] X.env)).any (·.1) = false := by rfl) :
    PE X (.Call (.Name "min" p) [e, e2] [] pos) (tCB rMIN2 (tCons te (tCons te2 tNil))) :=
  pe_callB (call_min2 hc) hg B.min PyProof.Rows.boot_min (pa_cons ha (pa_cons ha2 pa_nil hs2) hs1) (by decide) (by decide) hs1 hpl
theorem x_split {K : PySem.W.Frag} (ho : PE X o to) (ha : PA X (e :: es) ta) (hbase : attributeBase o "split" X.env (eval o X.env) = eval o X.env := by rfl)
    (hfew : ((backTo cpos (starEach (e :: es) X.env)).all (fun x => !x.1) && (backToKw cpos (keywordEach [] X.env)).all (fun x => x.1.isSome) && decide ((e :: es).length + ([] : List Keyword).length + (if ([] : List Keyword).isEmpty then 0 else 1) < 30)) = true := by rfl)
    (hline : (apos.endLine == cpos.line) = true := by rfl) (hs : starEach (e :: es) X.env = (false, eval e X.env) :: starEach es X.env := by rfl) (hplain : (backTo cpos (starEach es X.env)).any (·.1) = false := by rfl) (hK : X.K = K := by rfl) :
    PE X (.Call (.Attribute o "split" apos) (e :: es) [] cpos) (tBM K "str" rSPLIT to ta) := by
  subst hK
  exact pe_bm PySem.F.plainAttrs_str PySem.F.slot_str_split PySem.F.type_str_split mt_split ho ha hbase hfew hline hs hplain
theorem x_starts {K : PySem.W.Frag} (ho : PE X o to) (ha : PA X (e :: es) ta) (hbase : attributeBase o "startswith" X.env (eval o X.env) = eval o X.env := by rfl)
    (hfew : ((backTo cpos (starEach (e :: es) X.env)).all (fun x => !x.1) && (backToKw cpos (keywordEach [] X.env)).all (fun x => x.1.isSome) && decide ((e :: es).length + ([] : List Keyword).length + (if ([] : List Keyword).isEmpty then 0 else 1) < 30)) = true := by rfl)
    (hline : (apos.endLine == cpos.line) = true := by rfl) (hs : starEach (e :: es) X.env = (false, eval e X.env) :: starEach es X.env := by rfl) (hplain : (backTo cpos (starEach es X.env)).any (·.1) = false := by rfl) (hK : X.K = K := by rfl) :
    PE X (.Call (.Attribute o "startswith" apos) (e :: es) [] cpos) (tBM K "str" rSTARTS to ta) := by
  subst hK
  exact pe_bm PySem.F.plainAttrs_str PySem.F.slot_str_startswith PySem.F.type_str_startswith mt_startswith ho ha hbase hfew hline hs hplain
theorem x_join {K : PySem.W.Frag} (ho : PE X o to) (ha : PA X (e :: es) ta) (hbase : attributeBase o "join" X.env (eval o X.env) = eval o X.env := by rfl)
    (hfew : ((backTo cpos (starEach (e :: es) X.env)).all (fun x => !x.1) && (backToKw cpos (keywordEach [] X.env)).all (fun x => x.1.isSome) && decide ((e :: es).length + ([] : List Keyword).length + (if ([] : List Keyword).isEmpty then 0 else 1) < 30)) = true := by rfl)
    (hline : (apos.endLine == cpos.line) = true := by rfl) (hs : starEach (e :: es) X.env = (false, eval e X.env) :: starEach es X.env := by rfl) (hplain : (backTo cpos (starEach es X.env)).any (·.1) = false := by rfl) (hK : X.K = K := by rfl) :
    PE X (.Call (.Attribute o "join" apos) (e :: es) [] cpos) (tBM K "str" (rJOIN K) to ta) := by
  subst hK
  exact pe_bm PySem.F.plainAttrs_str PySem.F.slot_str_join PySem.F.type_str_join mt_join ho ha hbase hfew hline hs hplain
theorem x_app {K : PySem.W.Frag} (ho : PE X o to) (ha : PA X (e :: es) ta) (hbase : attributeBase o "append" X.env (eval o X.env) = eval o X.env := by rfl)
    (hfew : ((backTo cpos (starEach (e :: es) X.env)).all (fun x => !x.1) && (backToKw cpos (keywordEach [] X.env)).all (fun x => x.1.isSome) && decide ((e :: es).length + ([] : List Keyword).length + (if ([] : List Keyword).isEmpty then 0 else 1) < 30)) = true := by rfl)
    (hline : (apos.endLine == cpos.line) = true := by rfl) (hs : starEach (e :: es) X.env = (false, eval e X.env) :: starEach es X.env := by rfl) (hplain : (backTo cpos (starEach es X.env)).any (·.1) = false := by rfl) (hK : X.K = K := by rfl) :
    PE X (.Call (.Attribute o "append" apos) (e :: es) [] cpos) (tBM K "list" rAppend to ta) := by
  subst hK
  exact pe_bm PySem.F.plainAttrs_list PySem.F.slot_list_append PySem.F.type_list_append mt_append ho ha hbase hfew hline hs hplain
theorem x_rng1 {tg : Expr} (B : BT X.mg) (ha : PE X e te) (hg : Gl X "range" := by rfl) (hs : starEach [e] X.env = [(false, eval e X.env)] := by rfl) : PI X tg (.Call (.Name "range" p) [e] [] pos) (iRng1 (tCons te tNil)) :=
  pi_range1 hg B.range (pa_cons ha pa_nil hs) hs
theorem x_enum {K : PySem.W.Frag} {elts : List Expr} {kk : Nat} {tpos : Pos} (B : BT X.mg) (ha : PE X e te) (hg : Gl X "enumerate" := by rfl) (hs : starEach [e] X.env = [(false, eval e X.env)] := by rfl) (hK : X.K = K := by rfl) : PI X (.Tuple elts kk tpos) (.Call (.Name "enumerate" p) [e] [] pos) (iEnum K (tCons te tNil)) := by
  subst hK
  exact pi_enum hg B.enumerate (pa_cons ha pa_nil hs) hs
theorem x_zip {K : PySem.W.Frag} {elts : List Expr} {kk : Nat} {tpos : Pos} (B : BT X.mg) (ha : PE X e te) (hb : PE X e2 te2) (hg : Gl X "zip" := by rfl)
    (hs : starEach [e, e2] X.env = (false, eval e X.env) :: starEach [e2] X.env := by rfl) (hs2 : starEach [e2] X.env = (false, eval e2 X.env) :: starEach [] X.env := by rfl) (hpl : (backTo pos (starEach [e2] X.env)).any (·.1) = false := by rfl) (hK : X.K = K := by rfl) :
    PI X (.Tuple elts kk tpos) (.Call (.Name "zip" p) [e, e2] [] pos) (iZipS X.prog X.w K (tCons te (tCons te2 tNil))) := by
  subst hK
  exact pi_zipS (pa_cons ha (pa_cons hb pa_nil hs2) hs) B.zip hg hs hpl
theorem t_eq {K : PySem.W.Frag} (hu : X.A.units + 64 < cLine) (ha : PE X e te) (hb : PE X e2 te2) (hK : X.K = K := by rfl) : PT X (.Compare e [.Eq] [e2] pos) (tTest (tOp (rEQ K) te te2)) := by
  subst hK
  exact pt_cmpR (op_EQ hu) ha hb (nomark _)
theorem t_ne {K : PySem.W.Frag} (hu : X.A.units + 64 < cLine) (ha : PE X e te) (hb : PE X e2 te2) (hK : X.K = K := by rfl) : PT X (.Compare e [.NotEq] [e2] pos) (tTest (tOp (rNE K) te te2)) := by
  subst hK
  exact pt_cmpR (op_NE hu) ha hb (nomark _)
theorem t_lt (ha : PE X e te) (hb : PE X e2 te2) : PT X (.Compare e [.Lt] [e2] pos) (tTest (tOp (rI0 fun i j => .bl (decide (i < j))) te te2)) := pt_cmpR op_lt ha hb (nomark _)
theorem t_le (ha : PE X e te) (hb : PE X e2 te2) : PT X (.Compare e [.LtE] [e2] pos) (tTest (tOp rLE te te2)) := pt_cmpR op_LE ha hb (nomark _)
theorem t_gt (ha : PE X e te) (hb : PE X e2 te2) : PT X (.Compare e [.Gt] [e2] pos) (tTest (tOp (rI0 fun i j => .bl (decide (j < i))) te te2)) := pt_cmpR op_gt ha hb (nomark _)
theorem t_ge (ha : PE X e te) (hb : PE X e2 te2) : PT X (.Compare e [.GtE] [e2] pos) (tTest (tOp (rI0 fun i j => .bl (decide (j ≤ i))) te te2)) := pt_cmpR op_ge ha hb (nomark _)
theorem t_isN (ha : PE X e te) (hb : PE X e2 te2) : PT X (.Compare e [.Is] [e2] pos) (tTest (tOp rIsN te te2)) := pt_cmpR op_isN1 ha hb (nomark _)
theorem t_notN (ha : PE X e te) (hb : PE X e2 te2) : PT X (.Compare e [.IsNot] [e2] pos) (tTest (tOp rNotN te te2)) := pt_cmpR op_notN1 ha hb (nomark _)
theorem t_inS (ha : PE X e te) (hb : PE X e2 te2) (hm : behindInMarks .In e2 = false := by with_unfolding_all rfl) : PT X (.Compare e [.In] [e2] pos) (tTest (tOp rInS te te2)) := pt_cmpR op_inS ha hb hm
theorem t_niS (ha : PE X e te) (hb : PE X e2 te2) (hm : behindInMarks .NotIn e2 = false := by with_unfolding_all rfl) : PT X (.Compare e [.NotIn] [e2] pos) (tTest (tOp rNotInS te te2)) := pt_cmpR op_notInS ha hb hm
theorem t_niF {K : PySem.W.Frag} {d : Addr} (D : ∃ es n, KDict X.K X.w d es n) (ha : PE X e te) (hb : PE X e2 te2) (hm : behindInMarks .NotIn e2 = false := by with_unfolding_all rfl) (hK : X.K = K := by rfl) : PT X (.Compare e [.NotIn] [e2] pos) (tTest (tOp (rNotInF K d) te te2)) := by
  subst hK
  obtain ⟨es, n, D⟩ := D
  exact pt_cmpR (op_notIn_kd D) ha hb hm
theorem t_niD (hu : X.A.units + 64 < cLine) (ha : PE X e ty) (hb : PE X e2 td) (hm : behindInMarks .NotIn e2 = false := by with_unfolding_all rfl) : PT X (.Compare e [.NotIn] [e2] pos) (tB (tDNotIn ty td)) := pt_cmp (pc_dnotin (by omega) ha hb) hm
theorem t_inD (hu : X.A.units + 64 < cLine) (ha : PE X e ty) (hb : PE X e2 td) (hm : behindInMarks .In e2 = false := by with_unfolding_all rfl) : PT X (.Compare e [.In] [e2] pos) (tB (tDIn ty td)) := pt_cmp (pc_din (by omega) ha hb) hm
theorem x_len {K : PySem.W.Frag} (B : BT X.mg) (ha : PE X e te) (hg : Gl X "len" := by rfl) (hs : starEach [e] X.env = (false, eval e X.env) :: starEach [] X.env := by rfl) (hK : X.K = K := by rfl) : PE X (.Call (.Name "len" p) [e] [] pos) (tCB (rLEN K) (tCons te tNil)) := by
  subst hK
  exact pe_len B ha hg hs
theorem x_is {K : PySem.W.Frag} (B : BT X.mg) (ha : PE X e te) (ha2 : PE X e2 te2) (hg : Gl X "isinstance" := by rfl)
    (hs1 : starEach [e, e2] X.env = (false, eval e X.env) :: starEach [e2] X.env := by rfl) (hs2 : starEach [e2] X.env = (false, eval e2 X.env) :: starEach [] X.env := by rfl) (hpl : (backTo pos (starEach [e2] X.env)).any (·.1) = false := by rfl) (hK : X.K = K := by rfl) :
    PE X (.Call (.Name "isinstance" p) [e, e2] [] pos) (tCB (rIs K) (tCons te (tCons te2 tNil))) := by
  subst hK
  exact pe_is B ha ha2 hg hs1 hs2 hpl
theorem x_all {K : PySem.W.Frag} (B : BT X.mg) (ha : PE X e te) (hc : X.calm = true := by rfl) (hg : Gl X "all" := by rfl) (hs : starEach [e] X.env = (false, eval e X.env) :: starEach [] X.env := by rfl) (hK : X.K = K := by rfl) : PE X (.Call (.Name "all" p) [e] [] pos) (tCB (rAll K) (tCons te tNil)) := by
  subst hK
  exact pe_all B ha hc hg hs
theorem x_any {K : PySem.W.Frag} (B : BT X.mg) (ha : PE X e te) (hc : X.calm = true := by rfl) (hg : Gl X "any" := by rfl) (hs : starEach [e] X.env = (false, eval e X.env) :: starEach [] X.env := by rfl) (hK : X.K = K := by rfl) : PE X (.Call (.Name "any" p) [e] [] pos) (tCB (rAny K) (tCons te tNil)) := by
  subst hK
  exact pe_any B ha hc hg hs
theorem x_callH {K : PySem.W.Frag} {k j i : Nat} {S : Addr → Option DS} {W : WX} {x : Str} {t : TA} (A : ∀ f F, S f = some F → HeldD X.prog X.w X.K X.mg X.base k f (spD K F)) (hr : Room j X.A) (tk : Takes X W) (ha : PA X (e :: es) t) (hk : k ≤ j := by decide)
    (hN : X.N[i]? = some x := by rfl) (hv : Vis X.env.scope x := by first | exact Or.inl rfl | exact Or.inr (Or.inl rfl) | exact Or.inr (Or.inr rfl))
    (hdb : (x == ("__debug__" : Str)) = false := by decide) (hcd : (x == ("__classdict__" : Str)) = false := by decide)
    (he : starEach (e :: es) X.env = (false, eval e X.env) :: starEach es X.env := by rfl) (hpl : (backTo pos (starEach es X.env)).any (·.1) = false := by rfl) (hK : X.K = K := by rfl) : PE X (.Call (.Name x p) (e :: es) [] pos) (tCallH i S K W t) := by
  subst hK
  exact pe_callH A hr tk ha hk hN hv hdb hcd he hpl
theorem x_xk {K : PySem.W.Frag} {f : Str} (he : PE X e te) (hb : attributeBase e f X.env (eval e X.env) = eval e X.env := by rfl) (hK : X.K = K := by rfl) : PE X (.Attribute e f pos) (tXk K f te) := by
  subst hK
  exact pe_xk he hb
theorem x_orT {K : PySem.W.Frag} {rest : List Expr} (ha : PE X e te) (hb : PE X (.BoolOp .Or (e2 :: rest) pos) te2) (hK : X.K = K := by rfl) : PE X (.BoolOp .Or (e :: e2 :: rest) pos) (tOrT K te te2) := by
  subst hK
  exact pe_orT ha hb
theorem t_tru {K : PySem.W.Frag} (ha : PE X e te) (he : ∀ whole, isTrue e X.env whole = (do let v ← whole; standAt e.pos; holding [v] (truthy v)) := by intro _; rfl) (hK : X.K = K := by rfl) : PT X e (fun σ H Q => te σ H fun x H' => ∃ k, TruV K x H' k ∧ Q k H') := by
  subst hK
  exact pt_truth ha he
/-- a test that is a value's truth -/
theorem pt_tru (ha : PE X e te) (he : ∀ whole, isTrue e X.env whole = (do let v ← whole; standAt e.pos; holding [v] (truthy v)) := by intro _; rfl) : PT X e (fun σ H Q => te σ H fun x H' => ∃ k, TruV X.K x H' k ∧ Q k H') := pt_truth ha he
end
section
variable {K : PySem.W.Frag} {st : Sto}
theorem o_max2 {i j : Int} : Oc K rMAX2 [dI i, dI j] st (dI (if j > i then j else i)) := fun c vs e s r Q q => by
  obtain ⟨v, w, rfl, r1, r2⟩ := rvs2 r
  cases rv_i r1
  cases rv_i r2
  exact ⟨i, j, rfl, q _ c (Tr.refl c) s e (.int _)⟩
theorem o_min2 {i j : Int} : Oc K rMIN2 [dI i, dI j] st (dI (if j < i then j else i)) := fun c vs e s r Q q => by
  obtain ⟨v, w, rfl, r1, r2⟩ := rvs2 r
  cases rv_i r1
  cases rv_i r2
  exact ⟨i, j, rfl, q _ c (Tr.refl c) s e (.int _)⟩
theorem o_leI {i j : Int} : Op K rLE (dI i) (dI j) st (dB (decide (i ≤ j))) := fun c v w e s r1 r2 Q q => Or.inl (o_Ib (f := fun i j => decide (i ≤ j)) c v w e s r1 r2 Q q)
theorem o_leS {i j : Str} : Op K rLE (dS i) (dS j) st (dB (!decide (j.cps.toList < i.cps.toList))) := fun c v w e s r1 r2 Q q => Or.inr ⟨i, j, rv_s r1, rv_s r2, q _ c (Tr.refl c) s e (.bl _)⟩
theorem o_eqS {x y : Str} : Op K (rEQ K) (dS x) (dS y) st (dB (decide (x = y))) := fun c v w e s r1 r2 Q q => by
  cases rv_s r1
  cases rv_s r2
  have h : decide (V.str x = V.str y) = decide (x = y) := by simp
  refine Or.inl ⟨rfl, ?_⟩
  rw [h]
  exact q _ c (Tr.refl c) s e (.bl _)
theorem o_neS {x y : Str} : Op K (rNE K) (dS x) (dS y) st (dB (!decide (x = y))) := fun c v w e s r1 r2 Q q => by
  cases rv_s r1
  cases rv_s r2
  have h : decide (V.str x = V.str y) = decide (x = y) := by simp
  refine Or.inl ⟨rfl, ?_⟩
  rw [h]
  exact q _ c (Tr.refl c) s e (.bl _)
theorem o_eqI {x y : Int} : Op K (rEQ K) (dI x) (dI y) st (dB (decide (x = y))) := fun c v w e s r1 r2 Q q => by
  cases rv_i r1
  cases rv_i r2
  have h : decide (V.int x = V.int y) = decide (x = y) := by simp
  refine Or.inl ⟨rfl, ?_⟩
  rw [h]
  exact q _ c (Tr.refl c) s e (.bl _)
theorem o_neI {x y : Int} : Op K (rNE K) (dI x) (dI y) st (dB (!decide (x = y))) := fun c v w e s r1 r2 Q q => by
  cases rv_i r1
  cases rv_i r2
  have h : decide (V.int x = V.int y) = decide (x = y) := by simp
  refine Or.inl ⟨rfl, ?_⟩
  rw [h]
  exact q _ c (Tr.refl c) s e (.bl _)
theorem o_eqD {x y : PyData} (hx : SeqAt.shaped x = true) (hy : SeqAt.shaped y = true) : Op K (rEQ K) (.d x) (.d y) st (dB (PyData.eqv x y)) := fun c v w e s r1 r2 Q q => Or.inr (o_eq hx hy c v w e s r1 r2 Q q)
theorem o_neD {x y : PyData} (hx : SeqAt.shaped x = true) (hy : SeqAt.shaped y = true) : Op K (rNE K) (.d x) (.d y) st (dB (!PyData.eqv x y)) := fun c v w e s r1 r2 Q q => Or.inr (o_ne hx hy c v w e s r1 r2 Q q)
theorem o_strsI {i : Int} (h : i.natAbs.log2 < 1920) : Oc K rSTRs [dI i] st (dS (toString i)) := fun c vs e s r Q q => by
  obtain ⟨v, rfl, r0⟩ := rvs1 r
  cases rv_i r0
  exact Or.inl ⟨i, rfl, h, q _ c (Tr.refl c) s e (.str _)⟩
theorem o_strsS {z : Str} : Oc K rSTRs [dS z] st (dS z) := fun c vs e s r Q q => by
  obtain ⟨v, rfl, r0⟩ := rvs1 r
  cases rv_s r0
  exact Or.inr ⟨z, rfl, q _ c (Tr.refl c) s e (.str _)⟩
end
end AL

set_option Elab.async false
set_option linter.all false
set_option maxRecDepth 100000
set_option maxHeartbeats 4000000
/-! AL17: statements with what they always do; kinds of data. -/
namespace AL
open PySem PySem.Spec PyProof.Rows L2
section
variable {K : PySem.W.Frag} {b : Cf} {sl : Sl} {st : Sto} {te : TE} {tt : TT} {t1 t2 ts tu : TS} {x : AV} {p : Bool} {e : DE}
theorem ws_ifE (h : Et K tt sl st p) (h1 : p = true → Ws K b t1 sl st e) (h2 : p = false → Ws K b t2 sl st e) : Ws K b (tIfS tt t1 t2) sl st e := ws_if (wt_of h (by
  cases p with
  | true => rw [if_pos rfl]; exact h1 rfl
  | false => rw [if_neg (by decide)]; exact h2 rfl))
theorem ws_asgE {i : Nat} (h : Ev K te sl st x) (k : e.nx (sl.set i (some x)) st) : Ws K b (tAsg te (gName i)) sl st e := ws_asg (wx_of h k)
theorem ws_retE (h : Ev K te sl st x) (k : e.rt x st) : Ws K b (tRet te) sl st e := ws_ret (wx_of h k)
theorem ws_sq (h : Ws K b ts sl st { nx := fun sl' st' => Ws K b tu sl' st' e, rt := e.rt, bk := e.bk, ct := e.ct }) : Ws K b (tSeq ts tu) sl st e := ws_seq h
/-- if c: return .. / the rest -/
theorem ws_guard (h : Et K tt sl st p) (h1 : p = true → Ws K b t1 sl st { nx := fun sl' st' => Ws K b tu sl' st' e, rt := e.rt, bk := e.bk, ct := e.ct }) (h2 : p = false → Ws K b tu sl st e) : Ws K b (tSeq (tIfS tt t1 tNext) tu) sl st e :=
  ws_sq (ws_ifE h h1 fun hp => ws_next (h2 hp))
theorem ws_asgS {i : Nat} (h : Ev K te sl st x) (k : Ws K b tu (sl.set i (some x)) st e) : Ws K b (tSeq (tAsg te (gName i)) tu) sl st e := ws_sq (ws_asgE h k)
/-- a test of pure data that may be or not -/
theorem et_chain {r r' : R2} {ta tb tc : TE} {x y z : AV} {p q : Bool} (ha : Ev K ta sl st x) (hb : Ev K tb sl st y) (hr : Op K r x y st (dB p)) (hc : p = true → Ev K tc sl st z) (hr' : p = true → Op K r' y z st (dB q)) : Et K (tTest (tChain r r' ta tb tc)) sl st (p && q) := et_test (ev_chain ha hb hr hc hr')
end
def isIntD : PyData → Bool
  | .int _ => true
  | .bool _ => true
  | _ => false
def isBoolD : PyData → Bool
  | .bool _ => true
  | _ => false
def isStrD : PyData → Bool
  | .str _ => true
  | _ => false
def isTupD : PyData → Bool
  | .tuple _ => true
  | _ => false
def isLstD : PyData → Bool
  | .list _ => true
  | _ => false
theorem kit_int (x : PyData) : kitB (tyD x) "int" = some (isIntD x) := by
  have h0 : kitB "NoneType" "int" = some false := by decide +kernel
  have h1 : kitB "bool" "int" = some true := by decide +kernel
  have h2 : kitB "int" "int" = some true := by decide +kernel
  have h3 : kitB "str" "int" = some false := by decide +kernel
  have h4 : kitB "list" "int" = some false := by decide +kernel
  have h5 : kitB "tuple" "int" = some false := by decide +kernel
  have h6 : kitB "dict" "int" = some false := by decide +kernel
  cases x <;> assumption
theorem kit_bool (x : PyData) : kitB (tyD x) "bool" = some (isBoolD x) := by
  have h0 : kitB "NoneType" "bool" = some false := by decide +kernel
  have h1 : kitB "bool" "bool" = some true := by decide +kernel
  have h2 : kitB "int" "bool" = some false := by decide +kernel
  have h3 : kitB "str" "bool" = some false := by decide +kernel
  have h4 : kitB "list" "bool" = some false := by decide +kernel
  have h5 : kitB "tuple" "bool" = some false := by decide +kernel
  have h6 : kitB "dict" "bool" = some false := by decide +kernel
  cases x <;> assumption
theorem kit_str (x : PyData) : kitB (tyD x) "str" = some (isStrD x) := by
  have h0 : kitB "NoneType" "str" = some false := by decide +kernel
  have h1 : kitB "bool" "str" = some false := by decide +kernel
  have h2 : kitB "int" "str" = some false := by decide +kernel
  have h3 : kitB "str" "str" = some true := by decide +kernel
  have h4 : kitB "list" "str" = some false := by decide +kernel
  have h5 : kitB "tuple" "str" = some false := by decide +kernel
  have h6 : kitB "dict" "str" = some false := by decide +kernel
  cases x <;> assumption
theorem kit_tup (x : PyData) : kitB (tyD x) "tuple" = some (isTupD x) := by
  have h0 : kitB "NoneType" "tuple" = some false := by decide +kernel
  have h1 : kitB "bool" "tuple" = some false := by decide +kernel
  have h2 : kitB "int" "tuple" = some false := by decide +kernel
  have h3 : kitB "str" "tuple" = some false := by decide +kernel
  have h4 : kitB "list" "tuple" = some false := by decide +kernel
  have h5 : kitB "tuple" "tuple" = some true := by decide +kernel
  have h6 : kitB "dict" "tuple" = some false := by decide +kernel
  cases x <;> assumption
section
variable {K : PySem.W.Frag} {sl : Sl} {st : Sto} {te : TE} {x : PyData}
/-- isinstance(x, T) as an expression -/
theorem ev_isI (h : Ev K te sl st (.d x)) : Ev K (tCB (rIs K) (tCons te (tCons (tC (.ty "int")) tNil))) sl st (dB (isIntD x)) := ev_cb (ea_cons h (ea_cons ev_raw ea_nil)) (o_is (kit_int x))
theorem ev_isB (h : Ev K te sl st (.d x)) : Ev K (tCB (rIs K) (tCons te (tCons (tC (.ty "bool")) tNil))) sl st (dB (isBoolD x)) := ev_cb (ea_cons h (ea_cons ev_raw ea_nil)) (o_is (kit_bool x))
theorem ev_isS (h : Ev K te sl st (.d x)) : Ev K (tCB (rIs K) (tCons te (tCons (tC (.ty "str")) tNil))) sl st (dB (isStrD x)) := ev_cb (ea_cons h (ea_cons ev_raw ea_nil)) (o_is (kit_str x))
theorem ev_isT (h : Ev K te sl st (.d x)) : Ev K (tCB (rIs K) (tCons te (tCons (tC (.ty "tuple")) tNil))) sl st (dB (isTupD x)) := ev_cb (ea_cons h (ea_cons ev_raw ea_nil)) (o_is (kit_tup x))
theorem ev_lenS {z : Str} (h : Ev K te sl st (dS z)) (hz : z.length ≤ 10000000) : Ev K (tCB (rLEN K) (tCons te tNil)) sl st (dI z.length) := ev_cb (ea_cons h ea_nil) (o_lenS hz)
theorem ev_lenL {xs : List PyData} (h : Ev K te sl st (dL xs)) : Ev K (tCB (rLEN K) (tCons te tNil)) sl st (dI xs.length) := ev_cb (ea_cons h ea_nil) o_lenL
theorem ev_lenT {xs : List PyData} (h : Ev K te sl st (dT xs)) : Ev K (tCB (rLEN K) (tCons te tNil)) sl st (dI xs.length) := ev_cb (ea_cons h ea_nil) o_lenT
theorem ev_all {bs : List Bool} (h : Ev K te sl st (dL (bs.map PyData.bool))) : Ev K (tCB (rAll K) (tCons te tNil)) sl st (dB (bs.all id)) := ev_cb (ea_cons h ea_nil) o_all
/-- all([..]) over a list of items -/
theorem ev_allM {α : Type} {xs : List α} {g : α → Bool} (h : Ev K te sl st (dL (xs.map fun x => .bool (g x)))) : Ev K (tCB (rAll K) (tCons te tNil)) sl st (dB (xs.all g)) := by
  have e : (xs.map fun x => PyData.bool (g x)) = (xs.map g).map PyData.bool := by rw [List.map_map]; rfl
  rw [e] at h
  have := ev_all h
  have e2 : (xs.map g).all id = xs.all g := by rw [List.all_map]; rfl
  rwa [e2] at this
/-- over items of any kind -/
theorem ev_lcG {wi : TI} {g : TG} {vs : List Nat} {α : Type} {xs : List α} {mk : α → AV} {f : α → PyData} (hi : Ei K wi sl st (xs.map mk)) (hn : xs.length ≤ 1000000) (hx : ∀ x ∈ xs, ∃ sl' js, (∀ j ∈ js, j ∈ vs) ∧ Eg K g (wipeS sl vs) (mk x) sl' js ∧ Ev K te sl' st (.d (f x))) :
    Ev K (tLc wi g tYes te vs) sl st (dL (xs.map f)) := fun c σ e s S Q q => by
  refine hi c σ e s S _ fun J c1 t1 s1 e1 w => fun D hD => ?_
  refine ⟨fun i m H => m = xs.length - i ∧ i ≤ xs.length ∧ ∃ c2, c2.hp = H ∧ c2.st = st ∧ Hid K c1 D c2 ((xs.take i).map f), ⟨_, rfl, Nat.zero_le _, _, rfl, e1, hid_start s1 hD⟩, ?_⟩
  have hl : (xs.map mk).length = xs.length := List.length_map ..
  rintro i m H ⟨rfl, hle, c2, rfl, e2, hd⟩
  by_cases hlt : i < xs.length
  · refine Or.inr ⟨w.go c2 i hd.up hd.s (by rw [hl]; exact hlt), fun H' => (i + 1) ≤ xs.length ∧ ∃ c3, c3.hp = H' ∧ c3.st = st ∧ Hid K c1 D c3 ((xs.take (i + 1)).map f), fun H' ⟨h1, h2⟩ => ⟨_, by omega, rfl, h1, h2⟩, fun v H' hy => ?_⟩
    have hx0 : xs[i]? = some xs[i] := List.getElem?_eq_getElem hlt
    have hx1 : (xs.map mk)[i]? = some (mk xs[i]) := by rw [List.getElem?_map, hx0]; rfl
    obtain ⟨c3, rfl, e3, t3, s3, r3⟩ := w.yld c2 i _ v H' hd.up hd.s hx1 hy
    have hd3 := hid_tr hd t3 s3
    obtain ⟨sl', js, hjs, hg, hr⟩ := hx _ (List.getElem_mem hlt)
    have S3 : SS K c3 (wipe σ vs) (wipeS sl vs) := ss_wipe (hd3.up.ss (t1.ss S)) vs
    refine hg c3 _ v s3 S3 r3 _ fun σ' S' hw => ⟨(hw vs hjs).trans wipe_wipe, ?_⟩
    show te σ' c3.hp _
    refine hr c3 σ' (e3.trans e2) s3 S' _ fun u c5 t5 s5 e5 r5 => ?_
    have hd5 := hid_tr hd3 t5 s5
    obtain ⟨us, h1, h2, h3⟩ := hid_push hd5 hD r5
    refine ⟨us, h1, ?_, hlt, { c5 with hp := upd c5.hp D (.lst (us ++ [u])) }, rfl, e5, ?_⟩
    · rw [h2, List.length_map, List.length_take]
      have : sizeLine = 16777216 := sizeLine_eq
      omega
    · rw [take_get hx0, List.map_append]
      exact h3
  · have : i = xs.length := by omega
    subst this
    rw [List.take_length] at hd
    obtain ⟨t, s', r⟩ := hid_end hd hD
    have ws := w.stop c2 hd.up hd.s
    rw [hl] at ws
    exact Or.inl ⟨ws, q _ { c2 with hid := c1.hid } (t1.trans t) s' e2 r⟩
/-- one name, over data -/
theorem ev_lcN {wi : TI} {j : Nat} {vs : List Nat} {α : Type} {xs : List α} {mk : α → AV} {f : α → PyData} (hi : Ei K wi sl st (xs.map mk)) (hn : xs.length ≤ 1000000) (hj : j ∈ vs) (hx : ∀ x ∈ xs, Ev K te ((wipeS sl vs).set j (some (mk x))) st (.d (f x))) :
    Ev K (tLc wi (gName j) tYes te vs) sl st (dL (xs.map f)) := ev_lcG hi hn fun x hm => ⟨_, [j], (fun i hi => by rw [List.mem_singleton.mp hi]; exact hj), eg_name, hx x hm⟩
end
end AL

set_option Elab.async false
set_option linter.all false
set_option maxRecDepth 100000
set_option maxHeartbeats 4000000
/-! AL18: what a call leaves behind that nobody names is forgotten. -/
namespace AL
open PySem PySem.Spec PyProof.Rows L2
def DataE (e : AE) : Prop := match e.fs with
  | none => True
  | some fs => ∀ p ∈ fs, ∃ d, p.2 = .d d
section
variable {K : PySem.W.Frag} {c c' : Cf} {ex : Sto}
def Cf.cutTo (c' c : Cf) : Cf := { c' with al := c.al, st := c.st }
theorem cut_alive (t : Tr c c') (s : SR K c) (e : c'.st = c.st ++ ex) {a : Addr} (h : (c'.cutTo c).Alive a) : c'.Alive a := by
  rcases h with h | ⟨i, o, h1, h2, h3⟩
  · exact Or.inl h
  · have h1 : c.al[i]? = some a := h1
    have h2 : c.st[i]? = some o := h2
    exact Or.inr ⟨i, o, t.idx h1, by rw [e, List.getElem?_append_left (List.getElem?_eq_some_iff.mp h2).1]; exact h2, h3⟩
theorem cut_tr (t : Tr c c') (s : SR K c) (e : c'.st = c.st ++ ex) : Tr c (c'.cutTo c) :=
  ⟨⟨[], by simp [Cf.cutTo]⟩, fun a o n q => ⟨fun h => (t.keep a o n q).1 (cut_alive t s e h), (t.keep a o n q).2⟩, t.dom, t.hid, t.keepH⟩
theorem cut_rvd (t : Tr c c') (s : SR K c) (e : c'.st = c.st ++ ex) {v : V} {d : PyData} (r : Rv K c' v (.d d)) : Rv K (c'.cutTo c) v (.d d) :=
  Dt.mono (fun a o n q => ⟨fun h => n (cut_alive t s e h), q⟩) d v r
theorem cut_rvL (t : Tr c c') (s : SR K c) (e : c'.st = c.st ++ ex) {v v0 : V} {l : Lf} (r : RvL K c' v l) (r0 : RvL K c v0 l) : RvL K (c'.cutTo c) v l := by
  cases l with
  | d x => exact Dt.mono (fun a o n q => ⟨fun h => n (cut_alive t s e h), q⟩) x v r
  | o i =>
    obtain ⟨a, h1, rfl⟩ := r
    obtain ⟨a0, h2, _⟩ := r0
    have := t.idx h2
    rw [h1] at this
    cases this
    exact ⟨a, h2, rfl⟩
  | raw u => exact r
theorem cut_rv (t : Tr c c') (s : SR K c) (e : c'.st = c.st ++ ex) {v v0 : V} {x : AV} (r : Rv K c' v x) (r0 : Rv K c v0 x) : Rv K (c'.cutTo c) v x := by
  cases x with
  | d x => exact cut_rvd t s e r
  | o i =>
    obtain ⟨a, h1, rfl⟩ := r
    obtain ⟨a0, h2, _⟩ := r0
    have := t.idx h2
    rw [h1] at this
    cases this
    exact ⟨a, h2, rfl⟩
  | raw u => exact r
  | p xs =>
    obtain ⟨a, us, rfl, n, q, p⟩ := r
    obtain ⟨a0, us0, _, _, _, p0⟩ := r0
    refine ⟨a, us, rfl, fun h => n (cut_alive t s e h), q, ?_⟩
    have g : ∀ {us us0 : List V} {xs : List Lf}, Paired (RvL K c') us xs → Paired (RvL K c) us0 xs → Paired (RvL K (c'.cutTo c)) us xs := by
      intro us us0 xs p
      induction p generalizing us0 with
      | nil => intro _; exact .nil
      | cons r _ ih =>
        intro p0
        cases p0 with
        | cons r0 t0 => exact .cons (cut_rvL t s e r r0) (ih t0)
    exact g p p0
theorem cut_rvs (t : Tr c c') (s : SR K c) (e : c'.st = c.st ++ ex) : ∀ {us us0 : List V} {xs : List AV}, Rvs K c' us xs → Rvs K c us0 xs → Rvs K (c'.cutTo c) us xs
  | _, _, _, .nil, _ => .nil
  | _, _, _, .cons r p, .cons r0 p0 => .cons (cut_rv t s e r r0) (cut_rvs t s e p p0)
theorem cut_kv {κ : Type} (t : Tr c c') (s : SR K c) (e : c'.st = c.st ++ ex) : ∀ {us us0 : List (κ × V)} {xs : List (κ × AV)}, Paired (fun p q => p.1 = q.1 ∧ Rv K c' p.2 q.2) us xs → Paired (fun p q => p.1 = q.1 ∧ Rv K c p.2 q.2) us0 xs → Paired (fun p q => p.1 = q.1 ∧ Rv K (c'.cutTo c) p.2 q.2) us xs
  | _, _, _, .nil, _ => .nil
  | _, _, _, .cons r p, .cons r0 p0 => .cons ⟨r.1, cut_rv t s e r.2 r0.2⟩ (cut_kv t s e p p0)
theorem cut_sr (t : Tr c c') (s : SR K c) (s' : SR K c') (e : c'.st = c.st ++ ex) : SR K (c'.cutTo c) := by
  obtain ⟨l, hl⟩ := t.pre
  refine ⟨fun a m => ?_, s'.hd, s.len, s.nd, fun a m q => ?_, fun i a o h1 h2 => ?_⟩
  · exact s'.dj a (by rw [hl]; exact List.mem_append_left _ m)
  · exact s.al a m (t.dom a q)
  · have h1 : c.al[i]? = some a := h1
    have h2 : c.st[i]? = some o := h2
    have r0 := s.ob i a o h1 h2
    have r := s'.ob i a o (t.idx h1) (by rw [e, List.getElem?_append_left (List.getElem?_eq_some_iff.mp h2).1]; exact h2)
    cases o with
    | dead => trivial
    | lst xs =>
      obtain ⟨vs, p, q⟩ := r
      obtain ⟨vs0, p0, q0⟩ := r0
      exact ⟨vs, p, cut_rvs t s e q q0⟩
    | dk kvs =>
      obtain ⟨vs, p, q⟩ := r
      obtain ⟨vs0, p0, q0⟩ := r0
      exact ⟨vs, p, cut_kv t s e q q0⟩
    | dt kvs =>
      obtain ⟨vs, p, q⟩ := r
      obtain ⟨vs0, p0, q0⟩ := r0
      exact ⟨vs, p, cut_kv t s e q q0⟩
    | ins C fs =>
      obtain ⟨dx, vs, p, q⟩ := r
      obtain ⟨dx0, vs0, p0, q0⟩ := r0
      exact ⟨dx, vs, p, cut_kv t s e q q0⟩
    | exc cls fs =>
      obtain ⟨d, vs, p, n, x, q⟩ := r
      obtain ⟨d0, vs0, p0, n0, x0, q0⟩ := r0
      exact ⟨d, vs, p, fun dd z h => n dd z (cut_alive t s e h), x, cut_kv t s e q q0⟩
theorem cut_er (t : Tr c c') (s : SR K c) (e : c'.st = c.st ++ ex) {cls : Value} {d : Option Addr} {er : AE} (r : Er K c' cls d er) (hd : DataE er) : Er K (c'.cutTo c) cls d er := by
  obtain ⟨h1, h2⟩ := r
  refine ⟨h1, ?_⟩
  unfold DataE at hd
  cases hf : er.fs with
  | none => rw [hf] at h2; exact h2
  | some fs =>
    rw [hf] at h2 hd
    obtain ⟨dx, ws, p1, p2, p3, p4⟩ := h2
    refine ⟨dx, ws, p1, p2, fun h => p3 (cut_alive t s e h), ?_⟩
    have g : ∀ {ws : List (Str × V)} {fs : List (Str × AV)}, (∀ p ∈ fs, ∃ d, p.2 = .d d) → Rf K c' ws fs → Rf K (c'.cutTo c) ws fs := by
      intro ws fs hh p
      induction p with
      | nil => exact .nil
      | @cons a b _ _ r _ ih =>
        refine .cons ⟨r.1, ?_⟩ (ih fun p hp => hh p (List.mem_cons_of_mem _ hp))
        obtain ⟨d, hd⟩ := hh b (List.mem_cons_self ..)
        have r2 := r.2
        rw [hd] at r2 ⊢
        exact cut_rvd t s e r2
    exact g hd p4
end
/-- the promise, what is left behind forgotten -/
theorem gc_imp {P : Program} {w : World} {K : PySem.W.Frag} {mg : Str → Option Value} {base : Heap} {k : Nat} {f : Addr} {fd : FuncData} {ps : List Str} {F F' : DS}
    (h : ∀ xs st Φ Ψ, F' xs st Φ Ψ → F xs st (fun x st' => ∃ ex, st' = st ++ ex ∧ (∃ d, x = .d d) ∧ Φ x st) (fun e st' => ∃ ex, st' = st ++ ex ∧ DataE e ∧ Ψ e st)) (G : FnOk P w K mg base (L2.CX P w) k f fd ps (spD K F)) : FnOk P w K mg base (L2.CX P w) k f fd ps (spD K F') :=
  G.imp fun vs H Q E hs => by
    obtain ⟨c, xs, Φ, Ψ, rfl, s, r, hf, hq, he⟩ := hs
    refine ⟨c, xs, _, _, rfl, s, r, h xs c.st Φ Ψ hf, fun v c' x t s' r' ⟨ex, e, ⟨d, hd⟩, k⟩ => ?_, fun cls d c' er t s' r' ⟨ex, e, hd, k⟩ => ?_⟩
    · subst hd
      exact hq v (c'.cutTo c) (.d d) (cut_tr t s e) (cut_sr t s s' e) (cut_rvd t s e r') k
    · exact he cls d (c'.cutTo c) er (cut_tr t s e) (cut_sr t s s' e) (cut_er t s e r' hd) k
end AL

set_option Elab.async false
set_option linter.all false
set_option maxRecDepth 100000
set_option maxHeartbeats 4000000
/-! AL19: lists behind changes, methods behind changes, a, b = x, y, isinstance of a kept exception with a tuple of classes, the script, defs at a known place. -/
namespace AL
open PySem PySem.Spec PyProof.Rows L2
section
variable {K : PySem.W.Frag} {b : Cf} {sl : Sl} {st : Sto} {te : TE} {x y z : AV} {Φ : AV → Sto → Prop} {e : DE}
theorem wx_lstD {ta : TA} (h : Wa K b ta sl st fun xs st1 => ∃ ds : List PyData, xs = ds.map AV.d ∧ ds.length ≤ 100000 ∧ Φ (.d (.list ds)) st1) : Wx K b (tLst ta) sl st Φ := fun c σ e tb s S Q q => h c σ e tb s S _ fun vs c1 xs t1 s1 r1 ⟨ds, e2, hl, k⟩ => by
  subst e2
  have a := rvs_dta r1
  refine ⟨Nat.le_trans (by rw [a.len]; exact hl) (by decide), fun p hp => ?_⟩
  obtain ⟨t2, s2, n2⟩ := tr_new (o := .lst vs) s1 hp
  exact q (.ref p) _ (.d (.list ds)) (t1.trans t2) s2 (Dt.lst n2 upd_same (DtA.mono t2.keep _ _ a)) k
theorem wx_bm {T : String} {r : V → List V → Hp → VK → Prop} {to : TE} {ta : TA} (ho : Ev K to sl st x) (ha : Wa K b ta sl st fun xs st1 => ∃ z, Om K T r x xs st1 z ∧ Φ z st1) (h0 : ∃ xs z, Om K T r x xs st z) : Wx K b (tBM K T r to ta) sl st Φ := fun c σ e tb s S Q q =>
  ho c σ e s S _ fun v c1 t1 s1 e1 r1 => ⟨let ⟨_, _, h⟩ := h0; (h c1 v e1 s1 r1).1, ha c1 σ e1 (tb.trans t1) s1 (t1.ss S) _ fun vs c2 xs t2 s2 r2 ⟨z, hr, k⟩ =>
    (hr c2 v rfl s2 (t2.rv r1)).2 c2 vs (Tr.refl c2) s2 rfl r2 Q fun u c3 t3 s3 e3 r3 => q u c3 z ((t1.trans t2).trans t3) s3 r3 (by rw [e3]; exact k)⟩
theorem wx_sl {te : TE} {tl th : TO} {r : V → Option Int → Option Int → Hp → VK → Prop} {lo hi : Option Int} (h : Wx K b te sl st fun x st1 => ∃ z, Eo K tl sl st1 lo ∧ Eo K th sl st1 hi ∧ Os K r x lo hi st1 z ∧ Φ z st1) : Wx K b (tSl r te tl th) sl st Φ := fun c σ e tb s S Q q =>
  h c σ e tb s S _ fun v c1 x t1 s1 r1 ⟨z, h1, h2, hr, k⟩ => h1 c1 σ rfl s1 (t1.ss S) _ fun c2 t2 s2 e2 => h2 c2 σ e2 s2 ((t1.trans t2).ss S) _ fun c3 t3 s3 e3 => hr c3 v (e3.trans rfl) s3 ((t2.trans t3).rv r1) Q fun u c4 t4 s4 e4 r4 => q u c4 z (((t1.trans t2).trans t3).trans t4) s4 r4 (by rw [e4]; exact k)
theorem ws_par {i j : Nat} {ta : TA} (h : Wa K b ta sl st fun xs st1 => ∃ x y, xs = [x, y] ∧ e.nx ((sl.set i (some x)).set j (some y)) st1) : Ws K b (tPar i j ta) sl st e := fun b' hb D d c σ ec tb s S => h c σ ec (hb.trans tb) s S _ fun vs c1 xs t1 s1 r1 ⟨x, y, ex, k⟩ => by
  subst ex
  obtain ⟨v, w, rfl, r2, r3⟩ := rvs2 r1
  exact ⟨v, w, rfl, d.nx c1 _ _ (tb.trans t1) s1 (((t1.ss S).set r2).set r3) k⟩
theorem hW0 {b : Cf} : ErrOk K b (fun _ _ _ _ => False) (fun _ _ _ => False) := fun _ _ _ _ _ _ _ _ _ _ k => k
/-! ### isinstance(e, (C, ..)) of a kept exception -/
def rIsXT (K : PySem.W.Frag) : List V → Hp → VK → Prop := fun xs H Q => ∃ (a D tp : Addr) (Cs : List Addr) (d : Option Addr) (fs : List (Str × V)) (b : Bool), xs = [.ref a, .ref tp] ∧ H tp = some (.tup (Cs.map V.ref)) ∧ H a = some (exk a (.ref D) d) ∧ XDict H d fs ∧ ExcC K D ∧ PySem.W.kitAny K (.ref D) (Cs.map Value.ref) = some b ∧ Q (.bl b) H
theorem refs_vals : ∀ {Cs : List Addr} {us : List Value}, Vals (Cs.map V.ref) us → us = Cs.map Value.ref
  | [], _, .nil => rfl
  | C :: Cs, _, .cons r t => by
    have r : _ = Value.ref C := r
    rw [r, refs_vals t]
    rfl
theorem call_isXT {X : Cx} : CallR X (.builtin "isinstance") (rIsXT X.K) := by
  intro pins s σ H xs us Q I r h
  obtain ⟨a, D, tp, Cs, d, fs, b, rfl, hT, ea, x, T, e, q⟩ := h
  obtain ⟨u1, u2, rfl, r1, r2⟩ := vals2 r
  cases r1
  cases r2
  obtain ⟨oe, od, J, _⟩ := exk_inst I ea x
  obtain ⟨_, its, rv, o, h1, h2, n, h3⟩ := (show ObjOk X.prog X.w H s.heap tp (.tup (Cs.map V.ref)) from I.hok tp _ hT)
  have e3 := refs_vals rv
  subst e3
  obtain ⟨oc, od2, dt, sl⟩ := o
  simp only at h2 h3
  subst h2 h3
  exact PySem.W.kia_tup (kitx_excO T.hg T.hk T.hs T.hd T.ha T.hn T.ht T.hm) I.kIn J h1 e (fun z => nomatch z) fun tk => ⟨.bl b, H, I.kept (t' := tk) fun _ _ z => z, rfl, q⟩
theorem x_isXT {X : Cx} {K : PySem.W.Frag} {e e2 : Expr} {te te2 : TE} {p pos : Pos} (B : BT X.mg) (ha : PE X e te) (ha2 : PE X e2 te2) (hg : Gl X "isinstance" := by rfl)
    (hs1 : starEach [e, e2] X.env = (false, eval e X.env) :: starEach [e2] X.env := by rfl) (hs2 : starEach [e2] X.env = (false, eval e2 X.env) :: starEach [] X.env := by rfl) (hpl : (backTo pos (starEach [e2] X.env)).any (·.1) = false := by rfl) (hK : X.K = K := by rfl) :
    PE X (.Call (.Name "isinstance" p) [e, e2] [] pos) (tCB (rIsXT K) (tCons te (tCons te2 tNil))) := by
  subst hK
  exact pe_callB call_isXT hg B.isinstance PyProof.Rows.boot_isinstance (pa_cons ha (pa_cons ha2 pa_nil hs2) hs1) (by decide) (by decide) hs1 hpl
/-- the tuple stands written in the call -/
theorem ev_isXT {n : Nat} {D : Addr} {Cs : List Addr} {fs : List (Str × AV)} {r : Bool} {ta : TA} (hx : Ev K te sl st (.o n)) (ha : Ea K ta sl st (Cs.map fun C => .raw (.ref C))) (hl : Cs.length ≤ 1000) (hn : st[n]? = some (.exc (.ref D) fs)) (T : ExcC K D) (h : PySem.W.kitAny K (.ref D) (Cs.map Value.ref) = some r) :
    Ev K (tCB (rIsXT K) (tCons te (tCons (tTup ta) tNil))) sl st (dB r) := fun c σ e s S Q q =>
  hx c σ e s S _ fun v c1 t1 s1 e1 r1 => ha c1 σ e1 s1 (t1.ss S) _ fun vs c2 t2 s2 e2 r2 => by
  have g : ∀ {vs : List V} {Cs : List Addr}, Rvs K c2 vs (Cs.map fun C => .raw (.ref C)) → vs = Cs.map V.ref := by
    intro vs Cs
    induction Cs generalizing vs with
    | nil => intro r; cases r; rfl
    | cons C Cs ih =>
      intro r
      cases r with
      | cons r t =>
        cases r
        rw [ih t]
        rfl
  have := g r2
  subst this
  refine ⟨Nat.le_trans (by rw [List.length_map]; exact hl) (by decide), fun p hp => ?_⟩
  obtain ⟨t3, s3, n3⟩ := tr_new (o := .tup (Cs.map V.ref)) s2 hp
  have T3 := t2.trans t3
  obtain ⟨a, ia, rfl⟩ := T3.rv (x := .o n) r1
  obtain ⟨d, ws, h1, _, h3, _⟩ := s3.ob n a _ ia (by show c2.st[n]? = _; rw [e2]; exact hn)
  exact ⟨a, D, p, Cs, d, ws, r, rfl, upd_same, h1, h3, T, h, q _ _ (t1.trans T3) s3 e2 (.bl _)⟩
/-! ### the script -/
def Scr (K : PySem.W.Frag) (c : Cf) (a : Addr) (ns : List Int) : Prop := (∃ o, c.hp a = some (.frz o (.lst (ns.map V.int))) ∧ ¬ c.Alive a) ∨ ∀ H, SqL K H a (ns.map V.int)
theorem Scr.mono {c c' : Cf} {a : Addr} {ns : List Int} (h : Scr K c a ns) (t : Tr c c') : Scr K c' a ns := by
  rcases h with ⟨o, h1, h2⟩ | h
  · exact Or.inl ⟨o, (t.keep a _ h2 h1).2, (t.keep a _ h2 h1).1⟩
  · exact Or.inr h
theorem Scr.sq {c : Cf} {a : Addr} {ns : List Int} (h : Scr K c a ns) : SqL K c.hp a (ns.map V.int) := by
  rcases h with ⟨o, h1, h2⟩ | h
  · exact Or.inl (Or.inr ⟨o, h1⟩)
  · exact h _
theorem scr_of {c : Cf} {a : Addr} {ns : List Int} (hO : c.hp a = none ∨ ∃ o xs, c.hp a = some (.frz o (.lst xs))) (hn : ¬ c.Alive a) (h : SqL K c.hp a (ns.map V.int)) : Scr K c a ns := by
  rcases h with (h | ⟨o, h⟩) | h
  · rcases hO with z | ⟨o, xs, z⟩
    · rw [h] at z; cases z
    · rw [h] at z; cases z
  · exact Or.inl ⟨o, h, hn⟩
  · exact Or.inr fun H => Or.inr h
theorem wx_lenR {i : Nat} {a : Addr} {ns : List Int} (hs : Scr K b a ns) (h : sl[i]? = some (some (.raw (.ref a)))) (k : Φ (dI ns.length) st) : Wx K b (tCB (rLEN K) (tCons (tVar i) tNil)) sl st Φ := fun c σ e tb s S Q q => by
  obtain ⟨v, h1, h2⟩ := S.2 i _ h
  cases h2
  exact ⟨_, h1, .ref a, ns.length, rfl, Or.inl ⟨_, (hs.mono tb).sq, by rw [List.length_map]⟩, q _ c (dI ns.length) (Tr.refl c) s (.int _) (by rw [e]; exact k)⟩
theorem wx_ixR {i : Nat} {a : Addr} {ns : List Int} {te : TE} {j x : Int} (hs : Scr K b a ns) (h : sl[i]? = some (some (.raw (.ref a)))) (hi : Ev K te sl st (dI j)) (hx : atI ns j = some x) (k : Φ (dI x) st) : Wx K b (tOp (rIx K) (tVar i) te) sl st Φ := fun c σ e tb s S Q q => by
  obtain ⟨v, h1, h2⟩ := S.2 i _ h
  cases h2
  refine ⟨_, h1, hi c σ e s S _ fun w c1 t1 s1 e1 r1 => Or.inl ⟨a, ns.map V.int, j, .int x, rfl, rv_i r1, (hs.mono (tb.trans t1)).sq, ?_, q _ c1 (dI x) t1 s1 (.int _) (by rw [e1]; exact k)⟩⟩
  unfold atI at hx ⊢
  rw [List.length_map]
  cases hj : ixN ns.length j with
  | none => rw [hj] at hx; cases hx
  | some m =>
    rw [hj] at hx
    have hx : ns[m]? = some x := hx
    show (ns.map V.int)[m]? = _
    rw [List.getElem?_map, hx]
    rfl
end
end AL

set_option Elab.async false
set_option linter.all false
set_option maxRecDepth 100000
set_option maxHeartbeats 4000000
/-! AL20: a law's end where the law's def is shown at the caller's place alone (no guard stands there: repr). After the library's fn_of, law_call, walk_ofE. -/
namespace AL
open PySem PySem.Spec PyProof.Rows L2
/-- the promise at the law's caller -/
def AtC (P : Program) (w : World) (K : PySem.W.Frag) (mg : Str → Option Value) (base : Heap) (CX : CXT) (f : Addr) (fd : FuncData) (ps : List Str) (sp : Sp) : Prop :=
  ∀ (s : Shared) (H : Hp) (args : Args) (us : List Value) (vs : List V) (Q : VK) (E : XK), Env0 P w K mg base callerA [] s H → BindsTo s fd args (ps.zip us) → Vals vs us → sp vs H Q E → codeAny (model P w) callerA (.call (.ref f) args) (CR CX [] P w H s Q E) s
theorem FunD.at_ {CX : CXT} {P : Program} {w : World} {K : PySem.W.Frag} {mg : Str → Option Value} {base : Heap} {k : Nat} {f : Addr} {x qual : Str} {params : Arguments} {body : List Stmt} {scope : Scope} {dvs : List V} {kws : List (Str × V)} {fd : FuncData} {N ps : List Str} {sp : Sp} (F : FunD K x qual params body scope dvs kws f fd) (S : FnScope N ps scope)
    (len : ∀ vs H Q E, sp vs H Q E → vs.length = ps.length) (hr : Room (k + 1) callerA)
    (hbody0 : ∀ (cdv : Value) (s : Shared) (H : Hp) (vs : List V) (Q : VK) (E : XK), Room k (callerA.deeper (envOfC qual scope s.heap.objs.size f cdv)) → (callerA.deeper (envOfC qual scope s.heap.objs.size f cdv)).guards = some [] → sp vs H Q E →
      ∃ t, PSs (cxOf CX P w K mg base N qual scope f cdv callerA [] s H E) body t ∧ t { nx := fun _ H' => Q .non H', rt := Q } (start N vs) H) :
    AtC P w K mg base CX f fd ps sp := by
  obtain ⟨oc, od, dV, kV, doc, pm, an, cdv, ct, osl, rfl, lk, hcd, _, _⟩ := F.ex
  have hbody := hbody0 cdv
  intro s H args us vs Q E e0 hb r hsp
  have hl := len _ _ _ _ hsp
  have KX : K.In s.heap := e0.mod.kin.keeps fun b o e => (e0.bs b o e).1
  have lim : s.heap.NoLimit := e0.mod.nolimit.keeps fun b o e => (e0.bs b o e).1
  have hkind : ∀ y ∈ ps.zip us, scope.names.lookup y.1 = some .local ∨ (scope.names.lookup y.1 = some .cell ∧ ((cellsFrom (s.heap.objs.size + 1) scope.names []).lookup y.1).isSome = true) := fun ⟨n, v⟩ hy => by
    rcases S.par n (List.of_mem_zip hy).1 with q | q
    · exact .inl q
    · exact .inr ⟨q, PySem.W.cellsFrom_some _ _ _ (.inl q)⟩
  refine codeAny_call_function hr.depth (KX _ _ lk) rfl S.co S.gen rfl (PySem.W.codeRec_of KX hcd) (hb _ _ _ _ ?_)
  refine wpAny_newFunctionEnv_cells S.kind hkind fun env he s1 x => ?_
  subst he
  refine ⟨lim.keeps x.toInCall.keep, codeAny_func ?_⟩
  obtain ⟨t, ht, hq⟩ := hbody s H vs Q E (hr.deeper _) rfl hsp
  have I : Inv (cxOf CX P w K mg base N qual scope f cdv callerA [] s H E) [] (start N vs) H s1 := inv_start S hr.hd e0 hl r x
  refine wpAny_mono (ht.run [] s1 (start N vs) H _ I hq) (fun fl s' hs => ?_) fun e s' hs => hs
  have fin : ∀ {σ' : L2.St} {H' : Hp} {v : V} {u : Value}, Inv (cxOf CX P w K mg base N qual scope f cdv callerA [] s H E) [] σ' H' s' → RelV v u → Q v H' → CE [] P w H s Q u s' :=
    fun {σ' H' v u} J rv q => ⟨v, H', J.os, J.bare, J.base, J.hok, rv, q⟩
  cases fl with
  | ret u =>
    obtain ⟨v, σ', H', J, rv, q⟩ := hs
    exact fin J rv q
  | next =>
    obtain ⟨σ', H', J, q⟩ := hs
    exact fin (v := V.non) (u := Value.none) J rfl q
  | brk =>
    obtain ⟨_, _, _, q⟩ := hs
    exact False.elim q
  | cont =>
    obtain ⟨_, _, _, q⟩ := hs
    exact False.elim q
theorem law_callG {P : Program} {w : World} {K : PySem.W.Frag} {mg mb : Str → Option Value} {CX : CXT} {fa a : Addr} {fd : FuncData} {x : Str} {sp : Sp} {s₁ : Shared} {vs : List Value} {ns : List Int}
    (KX : K.In s₁.heap) (hns : s₁.heap.Ns mainGlobals mg) (hb : s₁.heap.Ns builtinsNs mb) (hbb : ∀ x : Str, x ≠ "__name__" → mb x = bootBuiltins x) (hlim : s₁.heap.NoLimit) (hg : s₁.gens = #[])
    (ha : s₁.heap.get? a = some { cls := .type "list", data := .seq vs.toArray }) (hi : IntsAre vs ns) (hl : ns.length ≤ sizeLine)
    (F : ∀ base : Heap, K.In base → base.Ns mainGlobals mg → AtC P w K mg base CX fa fd [x] sp) (hbind : ∀ (s : Shared) (u : Value), BindsTo s fd ⟨[u], []⟩ [(x, u)])
    (hsp : ∀ H : Hp, Only H → SqL K H a (ns.map V.int) → sp [.ref a] H (fun v _ => v = .bl true) fun _ _ _ => False)
    (hCX : ∀ H e s', CX [] H s₁ (fun _ _ _ => False) e s' → False) :
    codeAny (model P w) callerA (.call (.ref fa) ⟨[.ref a], []⟩) (fun r s' => r = .ok (.ret (.bool true)) ∧ OldK s₁.heap s'.heap ∧ s'.os = s₁.os ∧ AllBare s'.gens) s₁ := by
  have rv := vals_ints hi
  have lenV := hi.length
  -- from an abstract heap in which nothing but the script may be tracked
  have core : ∀ H : Hp, Only H → SqL K H a (ns.map V.int) → HOk P w H s₁.heap → (∀ b, H b ≠ none → b = a) → (H a ≠ none → K.lookup a = none) →
      codeAny (model P w) callerA (.call (.ref fa) ⟨[.ref a], []⟩) (fun r s' => r = .ok (.ret (.bool true)) ∧ OldK s₁.heap s'.heap ∧ s'.os = s₁.os ∧ AllBare s'.gens) s₁ := by
    intro H hO hS hok hA hK
    have base_of : ∀ {b : Addr} {o : Obj}, s₁.heap.get? b = some o → H b = none → (hidT s₁.heap H).get? b = some o := fun e n => hidT_get e n
    have noA : ∀ {b : Addr} {o : Obj} {es : Array DictEntry} {ep : Nat}, s₁.heap.get? b = some o → o.data = .dict es ep → H b = none := fun {b o es ep} e d => by
      cases q : H b with
      | none => rfl
      | some u =>
        have e' : b = a := hA b (by rw [q]; simp)
        subst e'
        rw [ha] at e; cases e
        have d' : Data.seq vs.toArray _ = Data.dict es ep := d
        cases d'
    have nsK : ∀ {b : Addr} {m : Str → Option Value}, s₁.heap.Ns b m → (hidT s₁.heap H).Ns b m := fun {b m} ⟨o, es, ep, e, d, r⟩ => ⟨o, es, ep, base_of e (noA e d), d, r⟩
    have hKb : K.In (hidT s₁.heap H) := fun b o e => base_of (KX b o e) (by
      cases q : H b with
      | none => rfl
      | some u =>
        have e' : b = a := hA b (by rw [q]; simp)
        subst e'
        rw [hK (by rw [q]; simp)] at e; cases e)
    have hM : Mod K mg (hidT s₁.heap H) := ⟨hKb, nsK hns, ⟨mb, nsK hb, hbb⟩, let ⟨mc, h1, h2⟩ := hlim; ⟨mc, nsK h1, h2⟩⟩
    have e0 : Env0 P w K mg (hidT s₁.heap H) callerA [] s₁ H := ⟨rfl, hM, fun b o e => of_hidT e, Nat.le_of_eq (hidT_size _ _), trivial, fun b hb => absurd (show b ∈ ([] : List Addr) from hb) (by simp), hok, .of_eq hg⟩
    refine codeAny_mono (F _ hKb (nsK hns) s₁ H ⟨[.ref a], []⟩ [.ref a] [.ref a] _ _ e0 (hbind s₁ (.ref a)) (.cons rfl .nil) (hsp H hO hS)) fun r s' h => ?_
    cases r with
    | error e => exact (hCX H e s' h).elim
    | ok fl =>
      cases fl with
      | next => exact False.elim h
      | brk => exact False.elim h
      | cont => exact False.elim h
      | ret u =>
        obtain ⟨v, H', os, bare, un, hok', r', q⟩ := h
        have q' : v = .bl true := q
        subst q'
        obtain rfl : u = Value.bool true := r'
        refine ⟨rfl, OldK.of_keep fun b o e => ?_, os, bare⟩
        cases q : H b with
        | none => exact un.keep b o e q (by intro z; exact absurd (show b ∈ ([] : List Addr) from z) (by simp)) (by simp)
        | some u =>
          rcases hO b with z | ⟨ob, xs, z⟩
          · rw [q] at z; cases z
          · have z2 := un.frzs b ob _ z
            obtain ⟨e1, _⟩ := hok b _ z
            obtain ⟨e2, _⟩ := hok' b _ z2
            rw [e] at e1; cases e1
            exact e2
  cases hk : K.lookup a with
  | some o =>
    -- the script is one of the module's own objects
    have e := KX a o hk
    rw [ha] at e
    cases e
    refine core (fun _ => none) (fun _ => .inl rfl) (.inr ⟨_, vs.toArray, _, hk, rfl, rfl, rfl, by rw [List.size_toArray, lenV]; exact hl, by simpa using rv⟩) (fun b u z => by have z' : (none : Option HO) = some u := z; cases z') (fun b z => absurd rfl z) fun z => absurd rfl z
  | none =>
    refine core (fun b => if b = a then some (.frz { cls := .type "list", data := .seq vs.toArray } (.lst (ns.map V.int))) else none) (fun b => ?_) (.inl (.inr ⟨{ cls := .type "list", data := .seq vs.toArray }, if_pos rfl⟩)) (fun b u z => ?_) (fun b z => ?_) fun _ => hk
    · by_cases hb : b = a
      · exact .inr ⟨_, _, if_pos hb⟩
      · exact .inl (if_neg hb)
    · by_cases hb : b = a
      · have z' := (if_pos hb).symm.trans z
        cases z'
        subst hb
        exact ⟨ha, by rw [List.length_map]; exact hl, vs, _, rv, ha⟩
      · have z' := (if_neg hb).symm.trans z
        cases z'
    · by_cases hb : b = a
      · exact hb
      · exact absurd (if_neg hb) z
theorem walk_ofG {l : PySem.W.OpenLaw} {n : Nat} {q : Program} {loose : List Str} {XP : (Str → Option Value) → Heap → Prop} {YP : World → Heap → Prop} {d : DefRec} {CX : World → CXT} {x : Str}
    (hn : l.most = some n) (hn2 : n ≤ sizeLine) (hdf : d.params.defaults = [])
    (F : ∀ (w : World) (mg : Str → Option Value) (fa : Addr) (h : Heap), YP w h → h.Ns mainGlobals mg → mg d.name = some (.ref fa) →
      ∃ (K : PySem.W.Frag) (fd : FuncData) (sp : Sp), K.In h ∧ (∀ (s : Shared) (u : Value), BindsTo s fd ⟨[u], []⟩ [(x, u)]) ∧
        (∀ (H : Hp) (a : Addr) (ns : List Int), ns.length ≤ n → Only H → SqL K H a (ns.map V.int) → sp [.ref a] H (fun v _ => v = .bl true) fun _ _ _ => False) ∧
        ∀ base : Heap, K.In base → base.Ns mainGlobals mg → AtC l.prog w K mg base (CX w) fa fd [x] sp)
    (hCX : ∀ (w : World) (H : Hp) (s : Shared) (e : Value) (s' : Shared), CX w [] H s (fun _ _ _ => False) e s' → False) :
    PySem.W.WalkO q loose XP YP l.row.toRowW d [] (fun f vs => PySem.call f vs) := by
  refine Att.attach_call hn hdf fun w s₀ s₁ mg mb fa o pm cd doc a vs ns G Y ho hd hcd hmg hobj hints hlen hg => ?_
  obtain ⟨K, fd, sp, KX, hb, hsp, hF⟩ := F w mg fa _ Y G.T.g hmg
  exact law_callG KX G.T.g G.T.b G.T.builtins G.T.nolimit hg hobj hints (Nat.le_trans hlen hn2) hF hb (fun H hO hS => hsp H a ns hlen hO hS) fun H e s' => hCX w H s₁ e s'
end AL

set_option Elab.async false
set_option linter.all false
set_option maxRecDepth 100000
set_option maxHeartbeats 4000000
/-! AL21: what a head tells of own exceptions and written tables, as one Bool; a hook that looks at the statics too (after the library's hookT, HeadNt's hookA). -/
namespace AL
open PySem PySem.Spec PyProof.Rows L2
open PySem.W (Frag findIn subIn typeIn keepIn nsIn specialIn readsIn findCls takesIn mroIn hasDictIn kitOne kitAny exmOne)
theorem ba {a b : Bool} (h : (a && b) = true) : a = true ∧ b = true := Bool.and_eq_true_iff.mp h
/-! ### an own exception class over ValueError -/
def oexO (K : Frag) (C : Addr) : Bool := match K.lookup C with
  | some ⟨.type "type", _, .cls cd, sl⟩ => (match cd.mro, sl.toList with
    | .ref C' :: bm, [_, _, _, _, some (.builtin n), _] => C' == C && n == "ValueError.__new__" && !cd.hasDel && cd.hasDict && PySem.HandSPX.refsVE bm
    | _, _ => false)
  | _ => false
def oexB (K : Frag) (C : Addr) : Bool := oexO K C && (decide (findIn K (.ref C) "__setattr__" = some (some (.builtin "object.__setattr__"))) && (decide (subIn K (.ref C) (.type "BaseException") = some true) && (decide (typeIn K (.ref C) = some (.type "type")) && keepIn K (.ref C))))
theorem oexB_ok {K : Frag} {C : Addr} (h : oexB K C = true) : OexC K C := by
  obtain ⟨q, h⟩ := ba h
  obtain ⟨h1, h⟩ := ba h
  obtain ⟨h2, h⟩ := ba h
  obtain ⟨h3, h4⟩ := ba h
  refine ⟨?_, of_decide_eq_true h1, of_decide_eq_true h2, of_decide_eq_true h3, h4⟩
  unfold oexO at q
  split at q
  · rename_i dd cd sl ho
    split at q
    · rename_i C' bm k0 k1 k2 k3 n k5 hm hs
      simp only [Bool.and_eq_true, beq_iff_eq, Bool.not_eq_true'] at q
      obtain ⟨⟨⟨⟨rfl, rfl⟩, hdel⟩, hd⟩, ht⟩ := q
      obtain ⟨nm, bs, mro, ns, qn, hdct, sn, sub, ab, col, del⟩ := cd
      dsimp only at hm hdel hd
      subst hm hdel hd
      have hsl : sl = #[k0, k1, k2, k3, some (.builtin "ValueError.__new__"), k5] := by
        obtain ⟨l⟩ := sl
        simp only at hs
        rw [hs]
      subst hsl
      exact ⟨nm, qn, ns, bs, bm, sn, sub, ab, col, dd, k0, k1, k2, k3, k5, ho, ht⟩
    · cases q
  · cases q
def excCB (K : Frag) (D : Addr) : Bool := decide (findIn K (.ref D) "__getattribute__" = some (some (.builtin "BaseException.__getattribute__"))) && (decide (findIn K (.ref D) "__getattr__" = some none) && (decide (subIn K (.ref D) (.type "BaseException") = some true) && (hasDictIn K D && (decide (findIn K (.ref D) "__class__" = some (some (.builtin "object.__class__"))) &&
  (decide (specialIn K (.builtin "object.__class__") "__get__" = some (some (.builtin "getset_descriptor.__get__"))) && (decide (takesIn K (.builtin "object.__class__") = some true) && decide (mroIn K D (.type "object") = some true)))))))
theorem excCB_ok {K : Frag} {D : Addr} (h : excCB K D = true) : ExcC K D := by
  obtain ⟨h1, h⟩ := ba h
  obtain ⟨h2, h⟩ := ba h
  obtain ⟨h3, h⟩ := ba h
  obtain ⟨h4, h⟩ := ba h
  obtain ⟨h5, h⟩ := ba h
  obtain ⟨h6, h⟩ := ba h
  obtain ⟨h7, h8⟩ := ba h
  exact ⟨of_decide_eq_true h1, of_decide_eq_true h2, of_decide_eq_true h3, h4, of_decide_eq_true h5, of_decide_eq_true h6, of_decide_eq_true h7, of_decide_eq_true h8⟩
def dinitB (K : Frag) (D : Addr) : Bool := readsIn K D (.type "type") && (decide (specialIn K (.ref D) "__getattribute__" = some (some (.builtin "type.__getattribute__"))) && (match findCls K (.ref D) (.type "type") "__init__" with
  | some (.val (.builtin n)) => decide (n = "ValueError.__init__")
  | _ => false))
theorem dinitB_ok {K : Frag} {mg : Str → Option Value} {x : Str} {D : Addr} (hm : mg x = some (.ref D)) (h : dinitB K D = true) : DInit K mg x := by
  obtain ⟨h1, h⟩ := ba h
  obtain ⟨h2, h3⟩ := ba h
  refine ⟨D, .type "type", hm, h1, of_decide_eq_true h2, ?_⟩
  cases e : findCls K (.ref D) (.type "type") "__init__" with
  | none => rw [e] at h3; cases h3
  | some c =>
    rw [e] at h3
    cases c with
    | val v =>
      cases v with
      | builtin n =>
        have : n = "ValueError.__init__" := of_decide_eq_true h3
        rw [this]
      | _ => cases h3
    | get _ _ _ _ => cases h3
/-! ### class C(D): def __init__(self, f): D.__init__(self, f); self.f = f -/
theorem run_init {K : Frag} {C : Addr} {f a b : Str} {vs : List V} {H : Hp} {Q : VK} {E : XK} (T : OexC K C) (hno : findIn K (.ref C) f = some none) (h : spInit C f vs H Q E) :
    (tSeq (tDrop (tVeI K (tCons (tVar 0) (tCons (tVar 1) tNil)))) (tOst K f (tVar 0) (tVar 1))) { nx := fun _ H' => Q .non H', rt := Q } (L2.start [a, b] vs) H := by
  obtain ⟨p, v, rfl, ha, hq⟩ := h
  exact ⟨_, rfl, _, rfl, p, C, [v], rfl, (by decide : 1 ≤ 1000), T, ha, _, rfl, _, rfl, p, C, rfl, T, hno, Or.inl ⟨ha, fun dx h1 h2 => hq dx h1 h2⟩⟩
/-! ### a written table of text keys -/
def tupAt (K : Frag) (a : Addr) (vs : List V) : Bool := match K.lookup a with
  | some ⟨.type c, _, .seq its _, _⟩ => decide (c = "tuple") && (decide (its.size ≤ sizeLine) && He.relAll vs its.toList)
  | _ => false
theorem tupAt_ok {K : Frag} {a : Addr} {vs : List V} (h : tupAt K a vs = true) (H : Hp) : SqT K H a vs := by
  unfold tupAt at h
  cases q : K.lookup a with
  | none => rw [q] at h; cases h
  | some o =>
    obtain ⟨oc, od, dt, osl⟩ := o
    rw [q] at h
    cases oc with
    | type c =>
      cases dt with
      | seq its n =>
        obtain ⟨h1, h2⟩ := ba (show (decide (c = "tuple") && (decide (its.size ≤ sizeLine) && He.relAll vs its.toList)) = true from h)
        obtain ⟨h3, h4⟩ := ba h2
        exact .inr ⟨_, its, n, q, congrArg Value.type (of_decide_eq_true h1), rfl, of_decide_eq_true h3, He.relAll_ok h4⟩
      | _ => cases h
    | _ => cases dt <;> cases h
def keysB (K : Frag) (d : Addr) (ks : List Str) : Bool := match K.lookup d with
  | some ⟨_, _, .dict es _, _⟩ => es.toList.all fun e => match e.key with
    | .str x _ => ks.any fun k => decide (k = x)
    | _ => false
  | _ => false
theorem keysB_miss {K : Frag} {d : Addr} {ks : List Str} (h : keysB K d ks = true) {z : Str} (hz : z ∉ ks) : nsIn K d z = some none := by
  unfold keysB at h
  unfold PySem.W.nsIn
  cases q : K.lookup d with
  | none => rw [q] at h; cases h
  | some o =>
    obtain ⟨oc, od, dt, osl⟩ := o
    rw [q] at h
    cases dt with
    | dict es n =>
      simp only at h ⊢
      have h1 : ∀ e ∈ es.toList, ∃ x t, e.key = .str x t ∧ x ∈ ks := fun e he => by
        have := List.all_eq_true.mp h e he
        cases hk : e.key with
        | str x t =>
          rw [hk] at this
          obtain ⟨k, hk1, hk2⟩ := List.any_eq_true.mp this
          exact ⟨x, t, rfl, by rw [← of_decide_eq_true hk2]; exact hk1⟩
        | _ => rw [hk] at this; cases this
      have h2 : es.toList.find? (·.key.isStr z) = none := by
        rw [List.find?_eq_none]
        intro e he
        obtain ⟨x, t, ek, hx⟩ := h1 e he
        rw [ek]
        show ¬ (x == z) = true
        intro q
        have : x = z := by simpa using q
        exact hz (this ▸ hx)
      rw [h2]
      simp only
      have h3 : es.toList.any (·.refKey) = false := by
        rw [List.any_eq_false]
        intro e he
        obtain ⟨x, t, ek, _⟩ := h1 e he
        have : e.refKey = false := by
          unfold DictEntry.refKey
          rw [ek]
          try rfl
        rw [this]
        decide
      rw [h3, if_neg (by decide)]
    | _ => cases h
/-- the object that stands at the key z -/
def atKey (K : Frag) (d : Addr) (z : Str) : Addr := match nsIn K d z with
  | some (some (.ref a)) => a
  | _ => 0
/-! ### the hook -/
open He (Fa Tab AlT obsT valT SaysT frG frG_in)
def asZ (g : Addr → Option Obj) (n : Nat) : List Addr := He.asD g n ++ [cStatics]
abbrev AlZ : Type := AlT × Bool
def obsZ (n : Nat) (fa : List Fa) (fn : List He.DefD) (ts : List Tab) (ex : Frag → Bool) (g : Addr → Option Obj) : AlZ := (obsT fa fn ts (frG g (asZ g n)), ex (frG g (asZ g n)))
def SaysZ (fa : List Fa) (fn : List He.DefD) (ts : List Tab) (ex : Frag → Bool) (w : World) (K : Frag) : Prop := SaysT fa fn ts w K ∧ ex K = true
def hookZ (n : Nat) (fa : List Fa) (fn : List He.DefD) (ts : List Tab) (ex : Frag → Bool) : PySem.W.Hook where
  α := AlZ
  obs := fun s => obsZ n fa fn ts ex s.heap.get?
  val := fun w => (valT fn ts w, true)
  says := fun w h => ∃ K : Frag, K.In h ∧ SaysZ fa fn ts ex w K
  of := fun _ _ e => ⟨_, frG_in, congrArg (fun z : AlZ => z.1) e, congrArg (fun z : AlZ => z.2) e⟩
  keeps := fun _ _ _ ⟨K, hK, c⟩ k => ⟨K, PySem.W.Frag.In.keeps hK k, c⟩
theorem obsZ_eq {n : Nat} {fa : List Fa} {fn : List He.DefD} {ts : List Tab} {ex : Frag → Bool} {g : Addr → Option Obj} {s : Shared} (h : ∀ a, g a = s.heap.get? a) : obsZ n fa fn ts ex g = (hookZ n fa fn ts ex).obs s := by
  have e : g = s.heap.get? := funext h
  rw [e] <;> rfl
section
variable {fa : List Fa} {fn : List He.DefD} {K : Frag}
theorem fact_in (c : He.SaysD fa fn K) {f : Fa} (h : f ∈ fa) : f.ok K = true := by
  obtain ⟨i, hi, e⟩ := List.mem_iff_getElem.mp h
  exact c.fact i (f := f) (by rw [List.getElem?_eq_getElem hi, e])
theorem def_in (c : He.SaysD fa fn K) {d : He.DefD} (h : d ∈ fn) : ∃ fd, FunD K d.name d.qual d.params d.body d.scope (d.dvs K) (d.kws K) (He.fAd K d.at_) fd := by
  obtain ⟨i, hi, e⟩ := List.mem_iff_getElem.mp h
  exact c.def_ i (d := d) (by rw [List.getElem?_eq_getElem hi, e])
end
end AL

set_option Elab.async false
set_option linter.all false
set_option maxRecDepth 100000
set_option maxHeartbeats 4000000
/-! AL22: {k: v for .. for ..}: dict displays by two clauses (after the library's lc2_core, dc_core). -/
namespace AL
open PySem PySem.Spec PyProof.Rows L2
theorem compTurn2_outD (kx vx t0 i0 t1 i1 : Expr) (ifs0 ifs1 : List Expr) (scope : Scope) (pos : Pos) (it : Value) (D : Addr) (env : Env) :
    compTurn (.DictComp kx vx [⟨t0, i0, ifs0, 0⟩, ⟨t1, i1, ifs1, 0⟩] scope pos) 0 it (.ref D) env = (do
      standAt i0.pos
      match ← pyNext it with
      | none => pure (.done .next)
      | some v =>
        letOwnedTupleGo t0 it v
        assign t0 env v
        let mut ok := true
        for c in ifs0 do
          if ok then ok ← isTrue c env (eval c env)
        if ok then
          let x ← eval i1 env
          standAt i1.pos
          let x ← foldedSetIterable i1 env x
          let _ ← runOwn (.compStart (.DictComp kx vx [⟨t0, i0, ifs0, 0⟩, ⟨t1, i1, ifs1, 0⟩] scope pos) 1 (← holding [x] (pyIter x)) (.ref D) env) env
        again (.compLoop (.DictComp kx vx [⟨t0, i0, ifs0, 0⟩, ⟨t1, i1, ifs1, 0⟩] scope pos) 0 it (.ref D) env)) := by rfl
theorem compTurn2_inD (kx vx t0 i0 t1 i1 : Expr) (ifs0 ifs1 : List Expr) (scope : Scope) (pos : Pos) (it : Value) (D : Addr) (env : Env) :
    compTurn (.DictComp kx vx [⟨t0, i0, ifs0, 0⟩, ⟨t1, i1, ifs1, 0⟩] scope pos) 1 it (.ref D) env = (do
      standAt i1.pos
      match ← pyNext it with
      | none => pure (.done .next)
      | some v =>
        letOwnedTupleGo t1 it v
        assign t1 env v
        let mut ok := true
        for c in ifs1 do
          if ok then ok ← isTrue c env (eval c env)
        if ok then
          (do
            let kv ← eval kx env
            let vv ← holding [kv] (eval vx env)
            standAt { kx.pos with endLine := vx.pos.endLine, endCol := vx.pos.endCol }
            holding [kv, vv] (dictSet D kv vv))
        again (.compLoop (.DictComp kx vx [⟨t0, i0, ifs0, 0⟩, ⟨t1, i1, ifs1, 0⟩] scope pos) 1 it (.ref D) env)) := by rfl

section
variable {prog : Program} {w : World} {A : Around} {R : Result → Shared → Prop} {s : Shared} {kx vx t0 i0 t1 i1 : Expr} {ifs0 ifs1 : List Expr} {scope : Scope} {pos : Pos} {it : Value} {D : Addr} {env : Env}
/-- the loop of the first clause -/
theorem compLoop2_outD (hs : ∀ x, foldedSetIterable i1 env x = pure x) (I : Nat → Shared → Prop)
    (turn : ∀ n s, I n s → wpAny (model prog w) A (pyNext it) (fun r s₁ => match r with
      | none => R (.ok .next) s₁
      | some v => wpAny (model prog w) A (letOwnedTupleGo t0 it v) (fun _ s₁' => wpAny (model prog w) A (assign t0 env v) (fun _ s₂ =>
          wpAny (model prog w) A (forIn ifs0 true fun c r => if r = true then do let ok ← isTrue c env (eval c env); pure (ForInStep.yield ok) else pure (ForInStep.yield r)) (fun ok s₃ =>
            if ok = true then wpAny (model prog w) A (eval i1 env) (fun x s₄ => wpAny (model prog w) A (pyIter x) (fun it1 s₅ =>
              codeAny (model prog w) A (.compStart (.DictComp kx vx [⟨t0, i0, ifs0, 0⟩, ⟨t1, i1, ifs1, 0⟩] scope pos) 1 it1 (.ref D) env) (fun r s' => match r with
                | .ok _ => ∃ m, m < n ∧ I m s'
                | .error _ => False) s₅) (notedBy (model prog w) A env fun e s' => R (.error e) s') s₄) (notedBy (model prog w) A env fun e s' => R (.error e) s') s₃
            else ∃ m, m < n ∧ I m s₃) (notedBy (model prog w) A env fun e s' => R (.error e) s') s₂) (notedBy (model prog w) A env fun e s' => R (.error e) s') s₁') (notedBy (model prog w) A env fun e s' => R (.error e) s') s₁) (notedBy (model prog w) A env fun e s' => R (.error e) s') s)
    (n : Nat) (h : I n s) :
    codeAny (model prog w) A (.compLoop (.DictComp kx vx [⟨t0, i0, ifs0, 0⟩, ⟨t1, i1, ifs1, 0⟩] scope pos) 0 it (.ref D) env) R s := by
  refine codeAny_loop rfl I (fun n s hI => ?_) n h
  show wpAny _ A ((compTurn (.DictComp kx vx [⟨t0, i0, ifs0, 0⟩, ⟨t1, i1, ifs1, 0⟩] scope pos) 0 it (.ref D) env).onRaise (fun x => do noteFrame x env; theTreesLotGoes x)) _ _ s
  refine wpAny_noted ?_
  rw [compTurn2_outD]
  refine wpAny_bind (wpAny_standAt (wpAny_bind (wpAny_mono (turn n s hI) (fun r s₁ h₁ => ?_) fun _ _ h' => h')))
  cases r with
  | none => exact wpAny_pure h₁
  | some v =>
    refine wpAny_bind (wpAny_mono h₁ (fun _ s₁' h₁' => ?_) fun _ _ h' => h')
    refine wpAny_bind (wpAny_mono h₁' (fun _ s₂ h₂ => wpAny_bind (wpAny_mono h₂ (fun ok s₃ h₃ => ?_) fun _ _ h' => h')) fun _ _ h' => h')
    cases ok with
    | false => exact wpAny_pure ⟨rfl, h₃⟩
    | true =>
      refine wpAny_bind (wpAny_mono h₃ (fun x s₄ h₄ => ?_) fun _ _ h' => h')
      refine wpAny_bind (wpAny_standAt (wpAny_bind (wpAny_of_eq (hs x) (wpAny_bind (wpAny_holding (wpAny_mono h₄ (fun it1 s₅ h₅ => ?_) fun _ _ h' => h'))))))
      refine wpAny_bind (wpAny_runOwn ?_)
      rw [Around.mark_none]
      refine codeAny_mono h₅ fun r s' hr => ?_
      cases r with
      | ok f =>
        first
          | exact wpAny_pure ⟨rfl, hr⟩
          | exact wpAny_bind (wpAny_pure (wpAny_pure ⟨rfl, hr⟩))
      | error e => exact hr.elim
/-- the loop of the second -/
theorem compLoop2_inD (I : Nat → Shared → Prop)
    (turn : ∀ n s, I n s → wpAny (model prog w) A (pyNext it) (fun r s₁ => match r with
      | none => R (.ok .next) s₁
      | some v => wpAny (model prog w) A (letOwnedTupleGo t1 it v) (fun _ s₁' => wpAny (model prog w) A (assign t1 env v) (fun _ s₂ =>
          wpAny (model prog w) A (forIn ifs1 true fun c r => if r = true then do let ok ← isTrue c env (eval c env); pure (ForInStep.yield ok) else pure (ForInStep.yield r)) (fun ok s₃ =>
            if ok = true then wpAny (model prog w) A (eval kx env) (fun kv s₄ => wpAny (model prog w) A (eval vx env) (fun vv s₅ =>
              wpAny (model prog w) A (dictSet D kv vv) (fun _ s₆ => ∃ m, m < n ∧ I m s₆) (notedBy (model prog w) A env fun e s' => R (.error e) s') s₅) (notedBy (model prog w) A env fun e s' => R (.error e) s') s₄) (notedBy (model prog w) A env fun e s' => R (.error e) s') s₃
            else ∃ m, m < n ∧ I m s₃) (notedBy (model prog w) A env fun e s' => R (.error e) s') s₂) (notedBy (model prog w) A env fun e s' => R (.error e) s') s₁') (notedBy (model prog w) A env fun e s' => R (.error e) s') s₁) (notedBy (model prog w) A env fun e s' => R (.error e) s') s)
    (n : Nat) (h : I n s) :
    codeAny (model prog w) A (.compLoop (.DictComp kx vx [⟨t0, i0, ifs0, 0⟩, ⟨t1, i1, ifs1, 0⟩] scope pos) 1 it (.ref D) env) R s := by
  refine codeAny_loop rfl I (fun n s hI => ?_) n h
  show wpAny _ A ((compTurn (.DictComp kx vx [⟨t0, i0, ifs0, 0⟩, ⟨t1, i1, ifs1, 0⟩] scope pos) 1 it (.ref D) env).onRaise (fun x => do noteFrame x env; theTreesLotGoes x)) _ _ s
  refine wpAny_noted ?_
  rw [compTurn2_inD]
  refine wpAny_bind (wpAny_standAt (wpAny_bind (wpAny_mono (turn n s hI) (fun r s₁ h₁ => ?_) fun _ _ h' => h')))
  cases r with
  | none => exact wpAny_pure h₁
  | some v =>
    refine wpAny_bind (wpAny_mono h₁ (fun _ s₁' h₁' => ?_) fun _ _ h' => h')
    refine wpAny_bind (wpAny_mono h₁' (fun _ s₂ h₂ => wpAny_bind (wpAny_mono h₂ (fun ok s₃ h₃ => ?_) fun _ _ h' => h')) fun _ _ h' => h')
    cases ok with
    | false => exact wpAny_pure ⟨rfl, h₃⟩
    | true =>
      exact wpAny_bind (wpAny_bind (wpAny_mono h₃ (fun kv s₄ h₄ => wpAny_bind (wpAny_holding (wpAny_mono h₄ (fun vv s₅ h₅ => wpAny_bind (wpAny_standAt (wpAny_holding (wpAny_mono h₅ (fun _ s₆ h₆ => wpAny_pure ⟨rfl, h₆⟩) fun _ _ h' => h')))) fun _ _ h' => h'))) fun _ _ h' => h'))
/-- the second clause's start -/
theorem compStart1_okD (h0 : codeAny (model prog w) A (.compLoop (.DictComp kx vx [⟨t0, i0, ifs0, 0⟩, ⟨t1, i1, ifs1, 0⟩] scope pos) 1 it (.ref D) env) R s)
    (h : wpAny (model prog w) A (pyIter it) (fun it' s' => codeAny (model prog w) A (.compLoop (.DictComp kx vx [⟨t0, i0, ifs0, 0⟩, ⟨t1, i1, ifs1, 0⟩] scope pos) 1 it' (.ref D) env) R s')
      (notedBy (model prog w) A env fun x s' => R (.error x) s') s) :
    codeAny (model prog w) A (.compStart (.DictComp kx vx [⟨t0, i0, ifs0, 0⟩, ⟨t1, i1, ifs1, 0⟩] scope pos) 1 it (.ref D) env) R s := by
  refine codeAny_of_tree ?_
  show wpAny _ _ ((compStart (.DictComp kx vx [⟨t0, i0, ifs0, 0⟩, ⟨t1, i1, ifs1, 0⟩] scope pos) 1 it (.ref D) env).onRaise (fun x => do noteFrame x env; standAt theWindowsPlace)) _ _ s
  refine wpAny_notedAt ?_
  unfold compStart
  show wpAny _ _ (ask >>= _) _ _ s
  refine wpAny_bind (wpAny_askSetting (wpAny_ite ?_))
  split
  · first
      | exact wpAny_bind (wpAny_pure (wpAny_pure (And.intro rfl h0)))
      | exact wpAny_pure (And.intro rfl h0)
  · first
      | exact wpAny_bind (wpAny_rule (wpAny_bind (wpAny_standAt (wpAny_bind (wpAny_mono h (fun it' s' h' => wpAny_pure (And.intro rfl h')) fun _ _ x => x)))))
      | (refine wpAny_bind (wpAny_rule ?_); show wpAny _ _ (standAt i1.pos >>= _) _ _ s; exact wpAny_bind (wpAny_standAt (wpAny_bind (wpAny_mono h (fun it' s' h' => wpAny_pure (And.intro rfl h')) fun _ _ x => x))))
end


section
variable {X : Cx}
/-- [elt for tg in iter if .. for tg1 in iter1 if ..]: behind the first clause's store and tests the second source's own loop, from which Nx is reached. vs: the block's names; vs1: those of the second target -/
def tDc2 (wi : TI) (g : TG) (tt : TT) (wi1 : TI) (g1 : TG) (tt1 : TT) (tk tv : TE) (vs vs1 : List Nat) : TE := fun σ H Q => wi σ H fun J H1 => ∀ D, H1 D = none → ∃ W : Nat → Nat → Hp → Prop, (∃ m, W 0 m (upd H1 D (.dK []))) ∧ ∀ i m H, W i m H →
  (J.stop i H ∧ Q (.ref D) H) ∨ (J.go i H ∧ ∃ Nx : Hp → Prop, (∀ H', Nx H' → ∃ m', m' < m ∧ W (i + 1) m' H') ∧ ∀ x H', J.yld i H x H' → g x (wipe σ vs) H' fun σ2 H2 => wipe σ2 vs = wipe σ vs ∧ tt σ2 H2 fun b H3 =>
    if b = true then wi1 σ2 H3 fun J1 H4 => ∃ W1 : Nat → Nat → Hp → Prop, (∃ m, W1 0 m H4) ∧ ∀ j k H, W1 j k H →
      (J1.stop j H ∧ Nx H) ∨ (J1.go j H ∧ ∃ Nx1 : Hp → Prop, (∀ H', Nx1 H' → ∃ k', k' < k ∧ W1 (j + 1) k' H') ∧ ∀ x H', J1.yld j H x H' → g1 x (wipe σ2 vs1) H' fun σ3 H5 => wipe σ3 vs1 = wipe σ2 vs1 ∧ tt1 σ3 H5 fun b H6 =>
        if b = true then tk σ3 H6 fun y H7 => tv σ3 H7 fun z H8 => ∃ kvs k, y = kV k ∧ H8 D = some (.dK kvs) ∧ kvs.length < sizeLine ∧ Nx1 (upd H8 D (.dK (putK kvs k z))) else Nx1 H6)
    else Nx H3)
theorem dc2_core {pins : List (Addr × Obj)} {s : Shared} {σ : L2.St} {H : Hp} {Q : VK} {kx vx tg iter tg1 iter1 : Expr} {ifs ifs1 : List Expr} {scope : Scope} {own : List (Str × Nat)} {vs1 : List Nat} {pos pos' : Pos} {wi wi1 : TI} {g g1 : TG} {tt tt1 : TT} {tk tv : TE} {use : Option (Value → Sem Unit)} {Qf : Value → Shared → Prop}
    (hc : X.calm = true) (hN : X.N.Nodup) (I : Inv X pins σ H s) (hi : PI X tg iter wi) (ok : BlkOk X.N X.env.scope scope own) (hv : ∀ i ∈ vs1, i ∈ own.map (·.2))
    (hg : ∀ (s : Shared) (H : Hp) (C : Addr) (cl : List (Str × Addr)) (fp : List Addr), PG (X.blk s H scope (compEnvC scope cl C X.env) fp) tg g) (ht : ∀ (s : Shared) (H : Hp) (C : Addr) (cl : List (Str × Addr)) (fp : List Addr), PTs (X.blk s H scope (compEnvC scope cl C X.env) fp) ifs tt)
    (hk : ∀ (s : Shared) (H : Hp) (C : Addr) (cl : List (Str × Addr)) (fp : List Addr), PE (X.blk s H scope (compEnvC scope cl C X.env) fp) kx tk)
    (he : ∀ (s : Shared) (H : Hp) (C : Addr) (cl : List (Str × Addr)) (fp : List Addr), PE (X.blk s H scope (compEnvC scope cl C X.env) fp) vx tv) (hs : ∀ x, foldedSetIterable iter X.env x = pure x)
    (hi1 : ∀ (s : Shared) (H : Hp) (C : Addr) (cl : List (Str × Addr)) (fp : List Addr), PI (X.blk s H scope (compEnvC scope cl C X.env) fp) tg1 iter1 wi1)
    (hg1 : ∀ (s : Shared) (H : Hp) (C : Addr) (cl : List (Str × Addr)) (fp : List Addr), PG (X.blk s H scope (compEnvC scope cl C X.env) fp) tg1 g1)
    (ht1 : ∀ (s : Shared) (H : Hp) (C : Addr) (cl : List (Str × Addr)) (fp : List Addr), PTs (X.blk s H scope (compEnvC scope cl C X.env) fp) ifs1 tt1)
    (hs1 : ∀ env x, foldedSetIterable iter1 env x = pure x)
    (h : tDc2 wi g tt wi1 g1 tt1 tk tv (own.map (·.2)) vs1 σ H Q)
    (hRR : ∀ D C s' m H', Inv X pins σ H' s' → Q (.ref D) H' → s'.heap.Ns C m → FpOk X pins H' C → compPost (model X.prog X.w) X.A X.xe use Qf (.ref D) C (.ok .next) s') :
    wpAny (model X.prog X.w) X.A (comprehension (.DictComp kx vx [⟨tg, iter, ifs, 0⟩, ⟨tg1, iter1, ifs1, 0⟩] scope pos) scope X.env pos' newDict false (eval iter X.env) use) Qf X.xe s := by
  have hfree : ∀ y ∈ scope.names, y.2 = .free → ∃ c, X.env.cells.lookup y.1 = some c := fun y hy e => by
    rcases ok.free y hy e with k | k
    · exact I.ok.has _ (.inl k)
    · exact I.ok.has _ (.inr k)
  refine wpAny_comprehension_free (use := use) rfl hs (closure_ok hfree) ok.kind (fun y hy e => by rw [ok.uniq y hy, e])
    (thn (hi.run pins s σ H _ I h) fun xv s1 hx => thn hx fun itv s2 h2 => ?_)
  obtain ⟨it, fp, tn, J, H2, e, I2, T, st2, f2, q⟩ := h2
  subst e
  refine wpAny_newObj_type (newEnv_comp ?_)
  generalize hD : s2.heap.objs.size = D
  have hDn : H2 D = none := I2.hok.fresh (Nat.le_of_eq hD)
  obtain ⟨W, ⟨m0, w0⟩, turn⟩ := q D hDn
  -- the new list
  generalize hs3 : ({ s2 with heap := s2.heap.push { cls := .type "dict", data := .dict #[] } } : Shared) = s3
  have I3 : Inv X pins σ (upd H2 D (.dK [])) s3 := by
    rw [← hs3]
    refine I2.laid (t' := s2.toks) (fun b o e => Heap.get?_push_of_some _ e) (Nat.le_of_eq hD) ?_
    rw [← hD]
    exact dk_empty s2.heap I2.big
  have h3 : s3.heap = s2.heap.push { cls := .type "dict", data := .dict #[] } := by rw [← hs3]
  have sz : ∀ b ∈ fp, b < s2.heap.objs.size := fun b hb => by
    obtain ⟨o, e, _⟩ := T.obj _ _ st2 b hb
    exact Heap.lt_size e
  have f3 : ∀ b ∈ fp, FpOk X pins (upd H2 D (.dK [])) b ∧ b < s3.heap.objs.size := fun b hb => by
    have hlt := sz b hb
    refine ⟨⟨?_, (f2 b hb).2⟩, by rw [h3, Heap.size_push]; exact Nat.lt_succ_of_lt hlt⟩
    rw [upd_ne (by rw [← hD]; exact Nat.ne_of_lt hlt)]
    exact (f2 b hb).1
  have st3 : tn 0 s3.heap := T.keep _ _ _ st2 fun b _ o e => by rw [h3]; exact Heap.get?_push_of_some _ e
  have I4 := block_start I3 ok hN f3
  have pg := hg s3 (upd H2 D (.dK [])) s3.heap.objs.size (cellsFrom (s3.heap.objs.size + 1) scope.names (cloFrom X.env.cells scope.names [])) fp
  have pt := ht s3 (upd H2 D (.dK [])) s3.heap.objs.size (cellsFrom (s3.heap.objs.size + 1) scope.names (cloFrom X.env.cells scope.names [])) fp
  have pk := hk s3 (upd H2 D (.dK [])) s3.heap.objs.size (cellsFrom (s3.heap.objs.size + 1) scope.names (cloFrom X.env.cells scope.names [])) fp
  have pe := he s3 (upd H2 D (.dK [])) s3.heap.objs.size (cellsFrom (s3.heap.objs.size + 1) scope.names (cloFrom X.env.cells scope.names [])) fp
  have pi1 := hi1 s3 (upd H2 D (.dK [])) s3.heap.objs.size (cellsFrom (s3.heap.objs.size + 1) scope.names (cloFrom X.env.cells scope.names [])) fp
  have pg1 := hg1 s3 (upd H2 D (.dK [])) s3.heap.objs.size (cellsFrom (s3.heap.objs.size + 1) scope.names (cloFrom X.env.cells scope.names [])) fp
  have pt1 := ht1 s3 (upd H2 D (.dK [])) s3.heap.objs.size (cellsFrom (s3.heap.objs.size + 1) scope.names (cloFrom X.env.cells scope.names [])) fp
  show codeAny _ _ (.compStart (.DictComp kx vx [⟨tg, iter, ifs, 0⟩, ⟨tg1, iter1, ifs1, 0⟩] scope pos) 0 (.ref it) (.ref D) (compEnvC scope (cellsFrom (s3.heap.objs.size + 1) scope.names (cloFrom X.env.cells scope.names [])) s3.heap.objs.size X.env)) (compPost (model X.prog X.w) X.A X.xe use Qf (.ref D) s3.heap.objs.size) { s3 with heap := pushCells (s3.heap.push { cls := .type "dict", data := .dict #[] }) scope.names }
  have nfp : ∀ b ∈ fp, (upd H2 D (.dK [])) b = none := fun b hb => (f3 b hb).1.1
  generalize hce : compEnvC scope (cellsFrom (s3.heap.objs.size + 1) scope.names (cloFrom X.env.cells scope.names [])) s3.heap.objs.size X.env = ce at I4 pg pt pk pe pi1 pg1 pt1 ⊢
  have cL : ce.locals = s3.heap.objs.size := by subst hce; rfl
  generalize hH3 : upd H2 D (.dK []) = H3 at I3 I4 pg pt pk pe pi1 pg1 pt1 w0 nfp f3
  generalize hs4 : ({ s3 with heap := pushCells (s3.heap.push { cls := .type "dict", data := .dict #[] }) scope.names } : Shared) = s4 at I4 ⊢
  have st4 : tn 0 s4.heap := T.keep _ _ _ st3 fun b _ o e => by rw [← hs4]; exact pushCells_keeps _ _ _ _ (Heap.get?_push_of_some _ e)
  have stat : ∀ {σ' : L2.St} {H' : Hp} {s' : Shared}, Inv (X.blk s3 H3 scope ce fp) [] σ' H' s' → (∀ b ∈ fp, H' b = none) → ∀ b ∈ fp, FpOk (X.blk s3 H3 scope ce fp) [] H' b := fun {σ' H' s'} I' hn b hb =>
    ⟨hn b hb, (I'.ok.exf b hb).1, I'.ok.exfs b hb, .inl hb, fun x c e => (I'.ok.exf b hb).2 x c e, fun p hp => absurd (show p ∈ ([] : List (Addr × Obj)) ++ [] from hp) (by simp)⟩
  have loop : codeAny (model X.prog X.w) X.A (.compLoop (.DictComp kx vx [⟨tg, iter, ifs, 0⟩, ⟨tg1, iter1, ifs1, 0⟩] scope pos) 0 (.ref it) (.ref D) ce) (compPost (model X.prog X.w) X.A X.xe use Qf (.ref D) s3.heap.objs.size) s4 := by
    refine compLoop2_outD (hs1 ce) (fun n s' => ∃ i H', Inv (X.blk s3 H3 scope ce fp) [] (wipe σ (own.map (·.2))) H' s' ∧ tn i s'.heap ∧ (∀ b ∈ fp, H' b = none) ∧ W i n H') ?_ m0 ⟨0, H3, I4, st4, nfp, w0⟩
    rintro n s5 ⟨i, H5, I5, st5, n5, w5⟩
    rcases turn i n H5 w5 with ⟨stop, qq⟩ | ⟨go, Nx, hNx, step⟩
    · have td := T.done (X.blk s3 H3 scope ce fp) rfl rfl rfl hc i [] s5 _ H5 (fun _ _ => False) I5 (stat I5 n5) st5 stop
      refine thnF td fun r s6 ⟨hr, I6⟩ => ?_
      subst hr
      -- back in the def's context
      have I7 : Inv X pins σ H5 s6 := I3.call' (ch := fp) I6.os I6.base I6.hok I6.bare fun b hb => ⟨(f3 b hb).1.2.2.2.1, (f3 b hb).1.2.1, (f3 b hb).1.2.2.2.2.1, (f3 b hb).1.2.2.2.2.2⟩
      have nC : H5 s3.heap.objs.size = none := by
        have z : H5 ce.locals = none := I6.free
        rw [cL] at z
        exact z
      obtain ⟨m, hn, _⟩ := I6.loc
      have hn : s6.heap.Ns ce.locals m := hn
      rw [cL] at hn
      exact hRR D s3.heap.objs.size s6 m H5 I7 qq hn (I3.fpOk (Nat.le_refl _) nC)
    · have ti := T.item (X.blk s3 H3 scope ce fp) rfl rfl rfl hc i [] s5 _ H5 (fun _ _ => False) I5 (stat I5 n5) st5 go
      refine thnF ti fun r s6 ⟨u, hr, h6⟩ => ?_
      subst hr
      refine thnF h6 fun _ s7 ⟨x, H7, I7, r7, y7, st7, n7⟩ => ?_
      have I7' := I7.pinned (stat I7 n7) (T.obj _ _ st7)
      refine thnF (pg.run _ s7 _ H7 x u _ I7' r7 (step x H7 y7)) fun _ s8 ⟨σ8, H8, I8, hw8, q8⟩ => ?_
      refine thnF (pt.run _ s8 σ8 H8 _ I8 q8) fun b s9 ⟨H9, I9, q9⟩ => ?_
      -- the turn's end, from any slots that know what the block knew at its start
      have fin : ∀ {σ9 : L2.St} {s' : Shared} {H' : Hp}, Inv (X.blk s3 H3 scope ce fp) ([] ++ pinsAt fp s7.heap) σ9 H' s' → (wipe σ (own.map (·.2))).length = σ9.length → (∀ (j : Nat) v, (wipe σ (own.map (·.2)))[j]? = some (some v) → σ9[j]? = some (some v)) → Nx H' →
          ∃ m, m < n ∧ ∃ i H', Inv (X.blk s3 H3 scope ce fp) [] (wipe σ (own.map (·.2))) H' s' ∧ tn i s'.heap ∧ (∀ b ∈ fp, H' b = none) ∧ W i m H' := fun {σ9 s' H'} I' hl hk nx => by
        obtain ⟨m', hm, w'⟩ := hNx H' nx
        have pin' : ∀ b ∈ fp, ∀ o, s7.heap.get? b = some o → s'.heap.get? b = some o ∧ H' b = none := fun b hb o e =>
          let z := I'.pin (b, o) (List.mem_append_right _ (List.mem_append_right _ (mem_pinsAt hb e)))
          ⟨z.1, z.2.1⟩
        refine ⟨m', hm, i + 1, H', (I'.unpinned (pins := [])).weak hl hk, T.keep _ _ _ st7 fun b hb o e => (pin' b hb o e).1, fun b hb => ?_, w'⟩
        obtain ⟨o, e, _⟩ := T.obj _ _ st7 b hb
        exact (pin' b hb o e).2
      have hl8 : (wipe σ (own.map (·.2))).length = σ8.length := by rw [← hw8, wipe_length]
      have hk8 : ∀ (j : Nat) v, (wipe σ (own.map (·.2)))[j]? = some (some v) → σ8[j]? = some (some v) := fun j v e => by
        rw [← hw8] at e
        exact (wipe_some e).1
      have hk9 : ∀ (j : Nat) v, (wipe σ (own.map (·.2)))[j]? = some (some v) → (wipe σ8 vs1)[j]? = some (some v) := fun j v e => by
        rw [← hw8] at e
        obtain ⟨e1, e2⟩ := wipe_some e
        rw [wipe_out fun z => e2 (hv j z)]
        exact e1
      cases b with
      | false =>
        simp only [Bool.false_eq_true, if_false] at q9 ⊢
        exact fin I9 hl8 hk8 q9
      | true =>
        simp only [if_true] at q9 ⊢
        refine thnF (pi1.run _ s9 σ8 H9 _ I9 q9) fun xv s10 hx => thnF hx fun itv s11 h11 => ?_
        obtain ⟨it1, fp1, tn1, J1, H11, e1, I11, T1, st11, f11, W1, ⟨m1, w1⟩, turn1⟩ := h11
        subst e1
        -- the inner loop
        have stat1 : ∀ {H' : Hp}, (∀ b ∈ fp1, H' b = none) → ∀ b ∈ fp1, FpOk (X.blk s3 H3 scope ce fp) ([] ++ pinsAt fp s7.heap) H' b := fun hn b hb => ⟨hn b hb, (f11 b hb).2⟩
        have loop1 : codeAny (model X.prog X.w) X.A (.compLoop (.DictComp kx vx [⟨tg, iter, ifs, 0⟩, ⟨tg1, iter1, ifs1, 0⟩] scope pos) 1 (.ref it1) (.ref D) ce)
            (fun r s' => match r with
              | .ok _ => ∃ m, m < n ∧ ∃ i H', Inv (X.blk s3 H3 scope ce fp) [] (wipe σ (own.map (·.2))) H' s' ∧ tn i s'.heap ∧ (∀ b ∈ fp, H' b = none) ∧ W i m H'
              | .error _ => False) s11 := by
          refine compLoop2_inD (fun k s' => ∃ j H', Inv (X.blk s3 H3 scope ce fp) ([] ++ pinsAt fp s7.heap) (wipe σ8 vs1) H' s' ∧ tn1 j s'.heap ∧ (∀ b ∈ fp1, H' b = none) ∧ W1 j k H') ?_ m1 ⟨0, H11, I11.weak (wipe_length _ _) (fun j v e => (wipe_some e).1), st11, fun b hb => (f11 b hb).1, w1⟩
          rintro k s12 ⟨j, H12, I12, st12, n12, w12⟩
          rcases turn1 j k H12 w12 with ⟨stop1, nx1⟩ | ⟨go1, Nx1, hNx1, step1⟩
          · refine thnF (T1.done (X.blk s3 H3 scope ce fp) rfl rfl rfl hc j _ s12 (wipe σ8 vs1) H12 (fun _ _ => False) I12 (stat1 n12) st12 stop1) fun r s13 ⟨hr, I13⟩ => ?_
            subst hr
            exact fin I13 (hl8.trans (wipe_length σ8 vs1).symm) hk9 nx1
          · refine thnF (T1.item (X.blk s3 H3 scope ce fp) rfl rfl rfl hc j _ s12 (wipe σ8 vs1) H12 (fun _ _ => False) I12 (stat1 n12) st12 go1) fun r s13 ⟨u1, hr, h13⟩ => ?_
            subst hr
            refine thnF h13 fun _ s14 ⟨x1, H14, I14, r14, y14, st14, n14⟩ => ?_
            have I14' := I14.pinned (stat1 n14) (T1.obj _ _ st14)
            refine thnF (pg1.run _ s14 (wipe σ8 vs1) H14 x1 u1 _ I14' r14 (step1 x1 H14 y14)) fun _ s15 ⟨σ15, H15, I15, hw15, q15⟩ => ?_
            refine thnF (pt1.run _ s15 σ15 H15 _ I15 q15) fun b1 s16 ⟨H16, I16, q16⟩ => ?_
            have fin1 : ∀ {s' : Shared} {H' : Hp}, Inv (X.blk s3 H3 scope ce fp) (([] ++ pinsAt fp s7.heap) ++ pinsAt fp1 s14.heap) σ15 H' s' → Nx1 H' → ∃ m, m < k ∧ ∃ j H', Inv (X.blk s3 H3 scope ce fp) ([] ++ pinsAt fp s7.heap) (wipe σ8 vs1) H' s' ∧ tn1 j s'.heap ∧ (∀ b ∈ fp1, H' b = none) ∧ W1 j m H' := fun {s' H'} I' nx => by
              obtain ⟨m', hm, w'⟩ := hNx1 H' nx
              have pin' : ∀ b ∈ fp1, ∀ o, s14.heap.get? b = some o → s'.heap.get? b = some o ∧ H' b = none := fun b hb o e =>
                let z := I'.pin (b, o) (List.mem_append_right _ (List.mem_append_right _ (mem_pinsAt hb e)))
                ⟨z.1, z.2.1⟩
              refine ⟨m', hm, j + 1, H', I'.unpinned.weak (by rw [← hw15, wipe_length]) (fun j v e => by rw [← hw15] at e; exact (wipe_some e).1), T1.keep _ _ _ st14 fun b hb o e => (pin' b hb o e).1, fun b hb => ?_, w'⟩
              obtain ⟨o, e, _⟩ := T1.obj _ _ st14 b hb
              exact (pin' b hb o e).2
            cases b1 with
            | false =>
              simp only [Bool.false_eq_true, if_false] at q16 ⊢
              exact fin1 I16 q16
            | true =>
              simp only [if_true] at q16 ⊢
              refine thnF (pk.run _ s16 σ15 H16 _ I16 q16) fun z s17 ⟨yk, H17, I17, r17, q17⟩ => ?_
              refine thnF (pe.run _ s17 σ15 H17 _ I17 q17) fun z2 s18 ⟨yv, H18, I18, r18, kvs, k, ek, hD18, hz18, nx⟩ => ?_
              subst ek
              exact d_dictSet (X := X.blk s3 H3 scope ce fp) I18 hD18 hz18 r17 r18 fun s19 I19 => fin1 I19 nx
        exact compStart1_okD loop1 (T1.self X.A 0 _ _ _ st11 loop1)
  exact codeAny_compStart_dict loop (T.self X.A 0 _ _ _ st4 loop)
/-- as a value -/
theorem pe_dc2 {kx vx tg iter tg1 iter1 : Expr} {ifs ifs1 : List Expr} {scope : Scope} {own : List (Str × Nat)} {vs1 : List Nat} {pos : Pos} {wi wi1 : TI} {g g1 : TG} {tt tt1 : TT} {tk tv : TE} (hc : X.calm = true) (hN : X.N.Nodup) (hi : PI X tg iter wi) (ok : BlkOk X.N X.env.scope scope own) (hv : ∀ i ∈ vs1, i ∈ own.map (·.2))
    (hg : ∀ (s : Shared) (H : Hp) (C : Addr) (cl : List (Str × Addr)) (fp : List Addr), PG (X.blk s H scope (compEnvC scope cl C X.env) fp) tg g) (ht : ∀ (s : Shared) (H : Hp) (C : Addr) (cl : List (Str × Addr)) (fp : List Addr), PTs (X.blk s H scope (compEnvC scope cl C X.env) fp) ifs tt)
    (hi1 : ∀ (s : Shared) (H : Hp) (C : Addr) (cl : List (Str × Addr)) (fp : List Addr), PI (X.blk s H scope (compEnvC scope cl C X.env) fp) tg1 iter1 wi1)
    (hg1 : ∀ (s : Shared) (H : Hp) (C : Addr) (cl : List (Str × Addr)) (fp : List Addr), PG (X.blk s H scope (compEnvC scope cl C X.env) fp) tg1 g1) (ht1 : ∀ (s : Shared) (H : Hp) (C : Addr) (cl : List (Str × Addr)) (fp : List Addr), PTs (X.blk s H scope (compEnvC scope cl C X.env) fp) ifs1 tt1)
    (hk : ∀ (s : Shared) (H : Hp) (C : Addr) (cl : List (Str × Addr)) (fp : List Addr), PE (X.blk s H scope (compEnvC scope cl C X.env) fp) kx tk)
    (he : ∀ (s : Shared) (H : Hp) (C : Addr) (cl : List (Str × Addr)) (fp : List Addr), PE (X.blk s H scope (compEnvC scope cl C X.env) fp) vx tv) (hs : ∀ x, foldedSetIterable iter X.env x = pure x := by intro _; rfl) (hs1 : ∀ env x, foldedSetIterable iter1 env x = pure x := by intro _ _; rfl) :
    PE X (.DictComp kx vx [⟨tg, iter, ifs, 0⟩, ⟨tg1, iter1, ifs1, 0⟩] scope pos) (tDc2 wi g tt wi1 g1 tt1 tk tv (own.map (·.2)) vs1) := by
  refine ⟨fun pins s σ H Q I h => ?_⟩
  rw [arm_eval_DictComp]
  refine dc2_core hc hN I hi ok hv hg ht hk he hs hi1 hg1 ht1 hs1 h fun D C s' m H' I' q hn f => ⟨m, hn, fun h'' sb => ?_⟩
  obtain ⟨f0, f1, f2, f3, f4, f5⟩ := f
  exact ⟨.ref D, H', I'.turned (t' := s'.toks) (fun b o hb e => (sb.2 b hb).trans e) f0 f1 f3 f4 f5, rfl, q⟩

end
end AL

set_option Elab.async false
set_option linter.all false
set_option maxRecDepth 100000
set_option maxHeartbeats 4000000
/-! AL23: the values of a dict with tuple keys (after the library's values of other dicts). -/
namespace AL
open PySem PySem.Spec PyProof.Rows L2
section
variable {prog : Program} {w : World} {A : Around} {E : Value → Shared → Prop} {s : Shared}
theorem rawIterV {v d : Addr} {od : Obj} {es : Array DictEntry} {ep : Nat} {Q : Value → Shared → Prop} (hv : s.heap.IsValuesView v d) (ho : s.heap.get? d = some od) (hdat : od.data = .dict es ep)
    (hQ : Q (.ref s.heap.objs.size) { s with heap := s.heap.push { cls := .type "dict_valueiterator", data := .fields #[.ref d, .int 0 0, .int es.size 0, .int ep 0] } }) :
    wpAny (model prog w) A (pyIter (.ref v)) Q E s := by
  obtain ⟨ov, hov, hcv, hdv⟩ := id hv
  refine wpAny_pyIter_slot hv.typeIs F.slot_dict_values_iter (wpAny_call_entry F.slot_dict_values_iter hv.typeIs F.entry_dict_values_iter ?_ (F.args_dict_values_iter_1 _))
  unfold Builtin.«dict_values.__iter__»
  refine wpAny_bind (wpAny_pure ?_)
  refine wpAny_bind ?_
  unfold Builtin.Dict_items.dictOf
  refine wpAny_bind (wpAny_field hov hdv (x := .ref d) rfl (wpAny_pure ?_))
  refine wpAny_bind ?_
  unfold Builtin.Dict_items.newIterator
  refine wpAny_bind (wpAny_dictEntries ho hdat ?_)
  refine wpAny_bind (wpAny_dictEpoch ho hdat ?_)
  have hown : Builtin.Dict_items.ownsTuple "dict_valueiterator" = false := by decide
  simp only [hown, Bool.false_eq_true, if_false]
  refine wpAny_newObj_type (wpAny_pure ⟨_, rfl, "dict_valueiterator", _, ⟨_, Heap.get?_push_size _ rfl, rfl⟩, F.slot_dict_valueiterator_next.lookup, ?_⟩)
  simpa [rawInt] using hQ
theorem rawNextV {it d : Addr} {i ep n : Nat} {od : Obj} {es : Array DictEntry} {en : DictEntry} {Q : Option Value → Shared → Prop} (hit : s.heap.IsValIter it d i n ep)
    (hod : s.heap.get? d = some od) (hdd : od.data = .dict es ep) (hsz : es.size = n) (hx : es[i]? = some en)
    (hQ : ∀ h', h'.IsValIter it d (i + 1) n ep → Heap.SameBut it s.heap h' → Q (some en.val) { s with heap := h' }) :
    wpAny (model prog w) A (pyNext (.ref it)) Q E s := by
  obtain ⟨o, ho, hc, hd⟩ := id hit
  unfold pyNext
  refine wpAny_bind (wpAny_attempt (wpAny_callSpecial?_slot (name := Str.ofString "__next__") hit.typeIs F.slot_dict_valueiterator_next
    (wpAny_call_entry F.slot_dict_valueiterator_next hit.typeIs F.entry_dict_valueiterator_next ?_ (F.args_dict_valueiterator_next_1 _))))
  refine wpAny_bind (wpAny_pure ?_)
  refine wpAny_bind ?_
  refine wpAny_bind ?_
  first | refine wpAny_bind (wpAny_typeNameOfWhole_valiter hit.typeIs (wpAny_pure ?_)) | refine wpAny_bind (wpAny_typeNameOf_valiter hit.typeIs (wpAny_pure ?_))
  refine wpAny_bind (wpAny_fieldsOf ho hd ?_)
  have hown : Builtin.Dict_items.ownsTuple "dict_valueiterator" = false := by decide
  simp only [hown, Bool.false_eq_true, if_false]
  show wpAny _ _ (if (Value.ref d == Value.none) = true then _ else _) _ _ s
  rw [if_neg (show ¬ ((Value.ref d == Value.none) = true) from Bool.false_ne_true)]
  refine wpAny_bind (wpAny_pure ?_)
  refine wpAny_bind (wpAny_dictEntries hod hdd ?_)
  rw [if_neg (by rw [hsz]; simp)]
  refine wpAny_bind (wpAny_pure ?_)
  refine wpAny_bind (wpAny_dictEpoch hod hdd ?_)
  rw [if_neg (by simp)]
  refine wpAny_pure ?_

  have hlt' : i < es.size := (Array.getElem?_eq_some_iff.mp hx).1
  have hval : es[i].val = en.val := by rw [(Array.getElem?_eq_some_iff.mp hx).2]
  simp only [show ¬ ((i : Int) < 0) from by omega, if_false, Int.toNat_natCast, Array.getElem?_eq_getElem hlt']
  refine wpAny_bind ?_
  first | refine wpAny_bind (wpAny_typeNameOfWhole_valiter hit.typeIs (wpAny_pure ?_)) | refine wpAny_bind (wpAny_typeNameOf_valiter hit.typeIs (wpAny_pure ?_))
  refine wpAny_bind (wpAny_isOneOf_valiter hit.typeIs ?_)
  show wpAny _ _ (setField (.ref it) 1 (rawInt ((i : Int) + 1)) >>= _) _ _ s
  refine wpAny_bind (wpAny_setField ho hd (by simp) ?_)
  have hit' : (s.heap.update it (Obj.mapFields (·.setIfInBounds 1 (rawInt ((i : Int) + 1))))).IsValIter it d (i + 1) n ep :=
    ⟨_, Heap.get?_update_self _ ho (Obj.isFreed_of_fields (Obj.data_mapFields hd _)), (Obj.cls_mapFields ..).trans hc, by rw [Obj.data_mapFields hd]; simp [rawInt]⟩
  refine wpAny_bind (wpAny_holding ?_)
  refine wpAny_bind (wpAny_isOneOf_valiter (s := { s with heap := s.heap.update it (Obj.mapFields (·.setIfInBounds 1 (rawInt ((i : Int) + 1)))) }) hit'.typeIs ?_)
  refine wpAny_bind (wpAny_isOneOf_valiter (s := { s with heap := s.heap.update it (Obj.mapFields (·.setIfInBounds 1 (rawInt ((i : Int) + 1)))) }) hit'.typeIs ?_)
  show wpAny _ _ (pure es[i].val) _ _ _
  exact wpAny_pure (wpAny_pure ⟨_, rfl, wpAny_pure (hval ▸ hQ _ hit' (Heap.SameBut.update ..))⟩)

theorem rawEndV {it d : Addr} {i ep n : Nat} {od : Obj} {es : Array DictEntry} {Q : Option Value → Shared → Prop} (hh : A.handled = none) (hit : s.heap.IsValIter it d i n ep)
    (hod : s.heap.get? d = some od) (hdd : od.data = .dict es ep) (hsz : es.size = n) (hx : n ≤ i)
    (hQ : ∀ h', Heap.ExtBut it s.heap h' → Q none { s with heap := h' }) : wpAny (model prog w) A (pyNext (.ref it)) Q E s := by
  obtain ⟨o, ho, hc, hd⟩ := id hit
  unfold pyNext
  refine wpAny_bind (wpAny_attempt (wpAny_callSpecial?_slot (name := Str.ofString "__next__") hit.typeIs F.slot_dict_valueiterator_next
    (wpAny_call_entry F.slot_dict_valueiterator_next hit.typeIs F.entry_dict_valueiterator_next ?_ (F.args_dict_valueiterator_next_1 _))))
  refine wpAny_bind (wpAny_pure ?_)
  refine wpAny_bind ?_
  refine wpAny_bind ?_
  first | refine wpAny_bind (wpAny_typeNameOfWhole_valiter hit.typeIs (wpAny_pure ?_)) | refine wpAny_bind (wpAny_typeNameOf_valiter hit.typeIs (wpAny_pure ?_))
  refine wpAny_bind (wpAny_fieldsOf ho hd ?_)
  have hown : Builtin.Dict_items.ownsTuple "dict_valueiterator" = false := by decide
  simp only [hown, Bool.false_eq_true, if_false]
  show wpAny _ _ (if (Value.ref d == Value.none) = true then _ else _) _ _ s
  rw [if_neg (show ¬ ((Value.ref d == Value.none) = true) from Bool.false_ne_true)]
  refine wpAny_bind (wpAny_pure ?_)
  refine wpAny_bind (wpAny_dictEntries hod hdd ?_)
  rw [if_neg (by rw [hsz]; simp)]
  refine wpAny_bind (wpAny_pure ?_)
  refine wpAny_bind (wpAny_dictEpoch hod hdd ?_)
  rw [if_neg (by simp)]
  refine wpAny_pure ?_
  have hge : es.size ≤ i := by omega
  simp only [show ¬ ((i : Int) < 0) from by omega, if_false, Int.toNat_natCast, Array.getElem?_eq_none hge]
  refine wpAny_bind ?_
  first | refine wpAny_bind (wpAny_typeNameOfWhole_valiter hit.typeIs (wpAny_pure ?_)) | refine wpAny_bind (wpAny_typeNameOf_valiter hit.typeIs (wpAny_pure ?_))
  show wpAny _ _ (setField (.ref it) 0 .none >>= _) _ _ s
  refine wpAny_bind (wpAny_setField ho hd (by simp) ?_)
  show wpAny _ _ (newExc (.type "StopIteration") [] >>= _) _ _ _
  refine wpAny_bind ?_
  simp only [newExc, newTuple]
  refine wpAny_bind (wpAny_newObj_type ?_ (by size_fits))
  refine wpAny_bind (m := firstArgMember _ _) (wpAny_of_eq (a := Value.none) (by first | rfl | (simp only [firstArgMember]; rfl)) ?_)
  refine wpAny_newObj_type ?_ (by size_fits)
  simp only [raiseNew]
  refine wpAny_bind (wpAny_handled ?_)
  rw [show A.in1.handled = none from hh]
  refine wpAny_bind (wpAny_pure (wpAny_throw ?_))
  refine wpAny_bind (wpAny_isInstance (T := "StopIteration") (b := true) ⟨_, Heap.get?_push_size _ rfl, rfl⟩ isSubtype_stop ?_)
  exact wpAny_pure (hQ _ (((Heap.SameBut.update ..).extBut.push _).push _))

theorem rawMeetsV {d : Addr} {es : Array DictEntry} {ep : Nat} (hd : (d == sysModules) = false) :
    MeetsIn prog w (Builtin.«dict.values» ⟨[.ref d], []⟩) (fun _ R s => DT.Raw s.heap d es ep ∧
      R (.ok (.ret (.ref s.heap.objs.size))) { s with heap := s.heap.push { cls := .type "dict_values", data := .fields #[.ref d] } }) :=
  .of_wp fun A R s ⟨hm, h⟩ => by
    refine wpAny_bind ?_
    unfold Builtin.Dict.noArgs
    refine wpAny_bind (wpAny_notOrdered_dict hm.typeIs ?_)
    show wpAny _ _ (pure d) _ _ s
    refine wpAny_pure ?_
    show wpAny _ _ (Builtin.Dict.showsAll d >>= _) _ _ s
    unfold Builtin.Dict.showsAll
    rw [if_neg (by rw [hd]; exact Bool.false_ne_true)]
    refine wpAny_bind (wpAny_pure ?_)
    exact wpAny_bind (wpAny_newObj_type (wpAny_pure ⟨_, rfl, h⟩))
end
/-- the locked dict's values at their places -/
theorem frzTv {X : Cx} {pins : List (Addr × Obj)} {σ : L2.St} {H : Hp} {s : Shared} {d : Addr} {o : Obj} {kvs : List (List Key × V)} (I : Inv X pins σ H s) (h : H d = some (.frz o (.dT kvs))) :
    (d == sysModules) = false ∧ s.heap.get? d = some o ∧ o.ExactDict ∧ ∃ (es : Array DictEntry) (ep : Nat), o.data = .dict es ep ∧ es.size = kvs.length ∧
      ∀ (i : Nat) (k : List Key) (v : V), kvs[i]? = some (k, v) → ∃ (en : DictEntry), es[i]? = some en ∧ RelV v en.val := by
  obtain ⟨hd, z, hs, xs, pr, o', es, ep, ho, hx, hdt, he, _⟩ := I.hok d _ h
  rw [hd] at ho
  cases ho
  refine ⟨hs, hd, hx, es, ep, hdt, ?_, fun i k v e => ?_⟩
  · have l1 : es.size = xs.length := size_of_entries he
    have l2 : kvs.length = xs.length := Paired.length pr
    omega
  · obtain ⟨b, hb, e1, e2, e3⟩ := paired_get pr e
    have q := entry_at he i
    rw [hb] at q
    exact ⟨_, q, e3⟩
/-- the values of the locked dict at d -/
def ItdT (d : Addr) (o : Obj) (kvs : List (List Key × V)) : It :=
  ⟨fun i H => H d = some (.frz o (.dT kvs)) ∧ i < kvs.length, fun i H x H' => H' = H ∧ ∃ k, kvs[i]? = some (k, x), fun i H => H d = some (.frz o (.dT kvs)) ∧ kvs.length ≤ i⟩
section
variable {P : Program} {w : World} {K : PySem.W.Frag} {tg : Expr} {d : Addr} {o : Obj} {es : Array DictEntry} {ep : Nat}
theorem turn_valsT {kvs : List (List Key × V)} (it : Addr) (hod : o.data = .dict es ep) : Turn P w K tg (ItdT d o kvs) [it] it (fun i h => h.IsValIter it d i kvs.length ep) where
  mem := by simp
  obj := fun i h st b hb => by
    have e : b = it := by simpa using hb
    subst e
    obtain ⟨oi, e, c, dd⟩ := st
    exact ⟨oi, e, fun v z => by rw [dd] at z; cases z⟩
  keep := fun i h h' st k => st.at fun oi e => k it (by simp) oi e
  item := by
    intro X hP hw hK hc i pins s σ H E I hf st hg
    subst hP hw hK
    obtain ⟨hd, hi⟩ := hg
    obtain ⟨f0, f1, f2, f3, f4, f5⟩ := hf it (by simp)
    obtain ⟨hs, hgd, hx, es', ep', hdt, hsz, ent⟩ := frzTv I hd
    obtain ⟨rfl, rfl⟩ := dict_ep hod hdt
    obtain ⟨⟨k, v⟩, hkv⟩ : ∃ p, kvs[i]? = some p := ⟨kvs[i], List.getElem?_eq_getElem hi⟩
    obtain ⟨en, hen, ru⟩ := ent i k v hkv
    refine rawNextV st hgd hdt hsz hen fun h' st' sb => ?_
    have I1 : Inv X pins σ H { s with heap := h' } := I.turned (t' := s.toks) (fun b ob hb e => (sb.2 b hb).trans e) f0 f1 f3 f4 f5
    obtain ⟨oi, e, c, dd⟩ := id st'
    exact ⟨en.val, rfl, go_of (s := { s with heap := h' }) e c dd (by decide) ⟨v, H, I1, ru, ⟨rfl, k, hkv⟩, st', fun b hb => (hf b hb).1⟩⟩
  done := by
    intro X hP hw hK hc i pins s σ H E I hf st hg
    subst hP hw hK
    obtain ⟨hd, hi⟩ := hg
    obtain ⟨f0, f1, f2, f3, f4, f5⟩ := hf it (by simp)
    obtain ⟨hs, hgd, hx, es', ep', hdt, hsz, ent⟩ := frzTv I hd
    obtain ⟨rfl, rfl⟩ := dict_ep hod hdt
    exact rawEndV (I.ok.hd hc) st hgd hdt hsz hi fun h' eb => ⟨rfl, I.turned (t' := s.toks) (fun b ob hb e => eb b ob hb e) f0 f1 f3 f4 f5⟩
  self := fun A i s Q E st h => wpAny_pyIter_valiter st h
end
/-- for v in d.values(), the dict locked -/
def iValsT (td : TE) : TI := fun σ H R => td σ H fun x H1 => ∃ d o kvs, x = .ref d ∧ H1 d = some (.frz o (.dT kvs)) ∧ R (ItdT d o kvs) H1
theorem pi_valuesT {X : Cx} {tg e : Expr} {td : TE} {apos cpos : Pos} (he : PE X e td) (hbase : attributeBase e "values" X.env (eval e X.env) = eval e X.env := by rfl) (hline : (apos.endLine == cpos.line) = true := by rfl) : PI X tg (.Call (.Attribute e "values" apos) [] [] cpos) (iValsT td) := by
  refine ⟨fun pins s σ H R I h => ?_⟩
  refine wpAny_Call_method (T := "dict") (id := "dict.values") hbase rfl hline PySem.F.plainAttrs_dict PySem.F.slot_dict_values PySem.F.type_dict_values (thn (he.run pins s σ H _ I h) fun u s1 ⟨x, H1, I1, rx, d, o, kvs, ex, hd, q⟩ => ?_)
  subst ex
  obtain rfl : u = Value.ref d := rx
  obtain ⟨hs, hgd, hx, es, ep, hdt, hsz, ent⟩ := frzTv I1 hd
  have hraw : DT.Raw s1.heap d es ep := ⟨o, hgd, hx, hdt⟩
  refine ⟨hraw.typeIs, (fun b q => by cases q; exact ⟨o, hgd, hx.2.1⟩), ?_⟩
  have I2 : Inv X pins σ H1 { s1 with heap := s1.heap.push { cls := .type "dict_values", data := .fields #[.ref d] } } := I1.kept (t' := s1.toks) fun b ob q => Heap.get?_push_of_some _ q
  have fin : wpAny (model X.prog X.w) X.A (pyIter (.ref s1.heap.objs.size)) (PIE X pins σ tg R) X.xe { s1 with heap := s1.heap.push { cls := .type "dict_values", data := .fields #[.ref d] } } := by
    refine rawIterV (d := d) (od := o) (es := es) (ep := ep) ⟨_, Heap.get?_push_size _ rfl, rfl, rfl⟩ (Heap.get?_push_of_some _ hgd) hdt (pi_one (tk := s1.toks) I2 _ (turn_valsT _ hdt) ⟨_, Heap.get?_push_size _ rfl, rfl, ?_⟩ q)
    rw [hsz] <;> rfl
  show wpAny _ _ (callWith cpos (.builtin "dict.values") [.ref d] [] []) _ X.xe s1
  exact method_meetsIn PySem.F.slot_dict_values PySem.F.entry_dict_values rfl (PySem.evalArgs_none ⟨rfl, hraw.typeIs, PySem.F.args_dict_values_1 _, _, rawMeetsV (es := es) (ep := ep) hs, hraw, fin⟩)
end AL

set_option Elab.async false
set_option linter.all false
set_option maxRecDepth 100000
set_option maxHeartbeats 4000000
/-! AL24: a display with one tuple key; == of lists that hold dicts of any keys, tuples, lists (after the library's DictEq, DeepEq). -/
namespace AL
open PySem PySem.Spec PyProof.Rows L2
/-! ### {(..): v} -/
def tDispT1 (tk tv : TE) : TE := fun σ H Q => ∀ p, H p = none → tPairs [(tk, tv)] σ (upd H p (.dT [])) fun ps H2 => ∃ (b : Addr) (k : List Key) (y : V), ps = [(.ref b, y)] ∧ H2 b = some (.tup (k.map kV)) ∧ H2 p = some (.dT []) ∧ Q (.ref p) (upd H2 p (.dT [(k, y)]))
theorem pe_dispT1 {X : Cx} {pos : Pos} {k v : Expr} {tk tv : TE} (hu : X.A.units < cLine) (hk : PE X k tk) (hv : PE X v tv) : PE X (.Dict [some k] [v] pos) (tDispT1 tk tv) := by
  refine ⟨fun pins s σ H Q I q => ?_⟩
  have hn := I.hok.fresh (Nat.le_refl s.heap.objs.size)
  have I1 := I.laid (a := s.heap.objs.size) (o := .dT []) (h' := s.heap.push { cls := .type "dict", data := .dict #[] }) (t' := s.toks) (fun _ _ q => Heap.get?_push_of_some _ q) (Nat.le_refl _) (dt_empty s.heap I.big)
  have hp : PPs X pos [some k] [v] [(tk, tv)] := pps_cons hk hv pps_nil
  refine wpAny_Dict_any rfl rfl (by simp) (by show 1 ≤ 15; decide) (thn (hp.run pins _ σ _ _ I1 (q _ hn)) fun ws s2 ⟨ps, H2, I2, rel, b, kk, y, ep, eb, e, q2⟩ => ?_)
  · subst ep
    cases rel with
    | @cons pa wb as bs r1 r2 =>
      cases r2
      obtain ⟨r1, r3⟩ := r1
      obtain ⟨u1, u2⟩ := wb
      obtain rfl : u1 = Value.ref b := r1
      obtain ⟨z, hd, xs, rel, dd⟩ := dt_of I2.hok e
      cases rel
      unfold storeAll
      rw [List.forIn_cons]
      refine wpAny_bind (wpAny_bind (wpAny_dictSet_heap (hsz := Nat.zero_le _) (knd := tupleKind (mixKind X.prog X.w)) hu (key_of I2.hok eb) dd fun h' dd' hs => wpAny_pure ?_))
      dsimp only
      rw [List.forIn_nil]
      obtain ⟨q, es, ep, hq, h2, h3, h4, _, h5⟩ := dd'
      have hnew : KT H2 [(kk, y)] [(kk, b, u2)] := .cons ⟨rfl, eb, r3⟩ .nil
      have new : ObjOk X.prog X.w (upd H2 s.heap.objs.size (.dT [(kk, y)])) h' s.heap.objs.size (.dT [(kk, y)]) := by
        refine ⟨by show 1 ≤ sizeLine; rw [sizeLine_eq]; decide, hd, [(kk, b, u2)], hnew.keeps fun c ys ec => ?_, q, es, ep, hq, h2, h3, h4, h5⟩
        rw [upd_ne (ne_of ec e (fun z => nomatch z))]
        exact ec
      exact wpAny_pure ⟨.ref s.heap.objs.size, _, d_write I2 (by rw [e]; exact True.intro) hs ⟨q, hq⟩ new, rfl, q2⟩
/-! ### == of dicts with tuple keys -/
section
variable {prog : Program} {w : World} {K : Type} [DecidableEq K] {knd : HeapKind prog w K} {A : Around} {E : Value → Shared → Prop} {s : Shared}
theorem samePairsT {nm : String} {a b : Addr} {xs ys : List (K × Addr × Value)} {Q : Bool → Shared → Prop} (ha : (a == sysModules) = false) (hb : (b == sysModules) = false) (hu : knd.room A)
    (da : s.heap.DictOfH knd a xs) (db : s.heap.DictOfH knd b ys) (hl : xs.length = ys.length) (hits : ∀ (i : Nat) k p v, xs[i]? = some (k, p, v) → ∃ (j : Nat) (q : Addr) (v' : Value), ys[j]? = some (k, q, v') ∧ SeqAt.EqP prog w A s v v' true) (h : Q true s) :
    wpAny (model prog w) A (Builtin.Dict.samePairs nm a b) Q E s := by
  obtain ⟨oa, es, ep, hoa, _, hda, hea, hisa, _⟩ := da
  obtain ⟨ob, es', ep', hob, _, hdb, heb, hisb, hnb⟩ := db
  have hla : es.size = xs.length := size_of_entries hea
  have hlb : es'.size = ys.length := size_of_entries heb
  unfold Builtin.Dict.samePairs Builtin.Dict.showsAll
  rw [if_neg (show ¬ (a == sysModules) = true by rw [ha]; exact Bool.false_ne_true), if_neg (show ¬ (b == sysModules) = true by rw [hb]; exact Bool.false_ne_true)]
  refine wpAny_bind (wpAny_pure (wpAny_bind (wpAny_pure ?_)))
  refine wpAny_bind (wpAny_dictEntries hoa hda ?_)
  dsimp only
  refine wpAny_bind (wpAny_dictEntries hob hdb ?_)
  have hsz : es.size = es'.size := by omega
  rw [if_neg (by rw [hsz]; simp)]
  refine wpAny_bind (wpAny_dictEpoch hoa hda ?_)
  refine wpAny_bind ?_
  rw [Std.Legacy.Range.forIn_eq_forIn_range']
  simp only [Std.Legacy.Range.size, Nat.sub_zero, Nat.add_sub_cancel, Nat.div_one]
  refine wpAny_forIn_list _ (fun rest q s' => s' = s ∧ q = (none, ()) ∧ ∃ i, rest = List.range' i (es.size - i) ∧ i ≤ es.size) _ ?_ ?_ _ _ ⟨rfl, rfl, 0, by simp, Nat.zero_le _⟩
  · rintro x rest q s' ⟨rfl, rfl, i, hr, hi⟩
    have hlt : i < es.size := by
      rcases Nat.lt_or_ge i es.size with h | h
      · exact h
      · rw [Nat.sub_eq_zero_of_le h] at hr; simp at hr
    obtain ⟨rfl, hrest⟩ : x = i ∧ rest = List.range' (i + 1) (es.size - (i + 1)) := by
      have e : es.size - i = (es.size - (i + 1)) + 1 := by omega
      rw [e, List.range'_succ] at hr
      injection hr with h1 h2
      exact ⟨h1, h2⟩
    refine wpAny_bind (wpAny_dictEntries hoa hda ?_)
    rw [Array.getElem?_eq_getElem hlt]
    have hlt' : x < xs.length := by omega
    obtain ⟨k, p, v, hkv⟩ : ∃ k p v, xs[x] = (k, p, v) := ⟨_, _, _, rfl⟩
    have hx? : xs[x]? = some (k, p, v) := by rw [List.getElem?_eq_getElem hlt', hkv]
    have hent : es[x] = entryOfKey knd (k, p, v) := by
      have := entry_at hea x
      rw [hx?, Array.getElem?_eq_getElem hlt] at this
      exact Option.some.inj this
    have hkey : knd.is s'.heap k p := hisa (k, p, v) (List.mem_of_getElem? hx?)
    obtain ⟨j, pq, v', hj, he⟩ := hits x k p v hx?
    show wpAny _ _ (holding [es[x].key, es[x].val] _ >>= _) _ _ _
    rw [hent]
    refine wpAny_bind (wpAny_holding (wpAny_bind (wpAny_dictFind_heap hu hkey hob hdb heb hisb hnb (fun hnone => absurd hj (hnone j (pq, v'))) fun j2 p2 hj2 => ?_)))
    have hjj : p2 = (pq, v') := by
      have h1 : (ys.map (·.1))[j]? = some k := by rw [List.getElem?_map, hj]; rfl
      have h2 : (ys.map (·.1))[j2]? = some k := by rw [List.getElem?_map, hj2]; rfl
      have : j = j2 := (List.getElem?_inj (List.getElem?_eq_some_iff.mp h1).1 hnb).mp (h1.trans h2.symm)
      subst this
      rw [hj] at hj2
      cases hj2
      rfl
    subst hjj
    have hjlt : j2 < es'.size := by rw [hlb]; exact (List.getElem?_eq_some_iff.mp hj2).1
    refine wpAny_bind (wpAny_dictEntries hob hdb ?_)
    have hent2 : es'[j2]? = some (entryOfKey knd (k, pq, v')) := by
      have := entry_at heb j2
      rw [hj2] at this
      exact this
    rw [hent2]
    refine wpAny_holding (he _ _ ?_)
    show wpAny _ _ (if (!true) = true then _ else _) _ _ _
    rw [if_neg (by decide)]
    refine wpAny_bind (wpAny_dictEpoch hoa hda ?_)
    rw [if_neg (by simp)]
    exact wpAny_pure ⟨rfl, rfl, x + 1, hrest, hlt⟩
  · rintro q s' ⟨rfl, rfl, i, hr, hi⟩
    exact wpAny_pure h
theorem rcT {a b : Addr} {xs ys : List (K × Addr × Value)} (ha : (a == sysModules) = false) (hb : (b == sysModules) = false) (hu : A.units < cLine) (hur : knd.room A.in1)
    (da : s.heap.DictOfH knd a xs) (db : s.heap.DictOfH knd b ys) (hl : xs.length = ys.length) (hits : ∀ (i : Nat) k p v, xs[i]? = some (k, p, v) → ∃ (j : Nat) (q : Addr) (v' : Value), ys[j]? = some (k, q, v') ∧ SeqAt.EqP prog w A.in1 s v v' true) (E Q : Value → Shared → Prop) (h : Q (.bool true) s) :
    wpAny (model prog w) A (richCompare .Eq (.ref a) (.ref b)) Q E s := by
  refine wpAny_richCompare_same_room (op := .Eq) da.typeIs db.typeIs PySem.F.slot_dict_eq (wpAny_call_entry PySem.F.slot_dict_eq da.typeIs PySem.F.entry_dict_eq ?_ (PySem.F.args_dict_eq_2 _ _)) hu
  show wpAny _ _ (Builtin.Dict.dictSlotArgs "__eq__" ⟨[.ref a, .ref b], []⟩ >>= _) _ _ s
  refine wpAny_bind ?_
  unfold Builtin.Dict.dictSlotArgs
  refine wpAny_bind (wpAny_notOrdered_dict da.typeIs ?_)
  show wpAny _ _ (pure (Value.ref a, Value.ref b)) _ _ s
  refine wpAny_pure ?_
  refine wpAny_bind (wpAny_isInstance (T := "dict") db.typeIs PySem.F.sub_dict_dict ?_)
  simp only [Bool.not_true, Bool.false_eq_true, if_false]
  refine wpAny_bind (wpAny_pure (wpAny_bind (wpAny_pure ?_)))
  refine wpAny_bind (samePairsT ha hb hur da db hl hits ?_)
  refine wpAny_pure ⟨_, rfl, ?_, ?_⟩
  · exact fun x => nomatch x
  · simpa using h
end
end AL

set_option Elab.async false
set_option linter.all false
set_option maxRecDepth 100000
set_option maxHeartbeats 4000000
/-! AL25: deep == over data, lists, dicts of all keys (after the library's DeepEq). -/
namespace AL
open PySem PySem.Spec PyProof.Rows L2
def EqRX (K : PySem.W.Frag) (H : Hp) (E : V → V → Prop) (x y : V) : Prop :=
  EqR K H E x y ∨ ∃ a b ks ls, x = .ref a ∧ y = .ref b ∧ H a = some (.dT ks) ∧ H b = some (.dT ls) ∧ ks.length = ls.length ∧ ∀ p ∈ ks, ∃ u, valV ls p.1 = some u ∧ E p.2 u
/-- equal, of nesting below n; data by what they are -/
def EqX (K : PySem.W.Frag) (H : Hp) : Nat → V → V → Prop
  | 0 => fun _ _ => False
  | n + 1 => fun x y => (x = y ∧ flatB x = true) ∨ (∃ a, x = .ref a ∧ y = .ref a) ∨ (∃ d e, Dp K H x d ∧ Dp K H y e ∧ SeqAt.shaped d = true ∧ SeqAt.shaped e = true ∧ PyData.eqv d e = true) ∨ EqRX K H (EqX K H n) x y
theorem hits_runT {P : Program} {w : World} {A : Around} {s : Shared} {H : Hp} {F : V → V → Prop} (ih : ∀ x y v u, F x y → RelV x v → RelV y u → SeqAt.EqP P w A s v u true) {ls : List (List Key × V)} {vb : List (List Key × Addr × Value)} (rb : KT H ls vb) {ks : List (List Key × V)} {va : List (List Key × Addr × Value)}
    (ra : KT H ks va) (hp : ∀ p ∈ ks, ∃ u, valV ls p.1 = some u ∧ F p.2 u) : ∀ (i : Nat) k p v, va[i]? = some (k, p, v) → ∃ (j : Nat) (q : Addr) (v' : Value), vb[j]? = some (k, q, v') ∧ SeqAt.EqP P w A s v v' true := by
  have back : ∀ {l1 : List (List Key × V)} {l2 : List (List Key × Addr × Value)}, KT H l1 l2 → ∀ (i : Nat) x, l2[i]? = some x → ∃ y, l1[i]? = some y ∧ y.1 = x.1 ∧ RelV y.2 x.2.2 := by
    intro l1 l2 r
    unfold KT at r
    induction r with
    | nil => intro i x h; cases h
    | @cons a b _ _ h _ ih =>
      intro i x hx
      cases i with
      | zero => cases hx; exact ⟨a, rfl, h.1, h.2.2⟩
      | succ i => exact ih i x hx
  have fwd : ∀ {l1 : List (List Key × V)} {l2 : List (List Key × Addr × Value)}, KT H l1 l2 → ∀ (i : Nat) y, l1[i]? = some y → ∃ x, l2[i]? = some x ∧ y.1 = x.1 ∧ RelV y.2 x.2.2 := by
    intro l1 l2 r
    unfold KT at r
    induction r with
    | nil => intro i x h; cases h
    | @cons a b _ _ h _ ih =>
      intro i x hx
      cases i with
      | zero => cases hx; exact ⟨b, rfl, h.1, h.2.2⟩
      | succ i => exact ih i x hx
  intro i k p v hi
  obtain ⟨y, hy, e1, r1⟩ := back ra i _ hi
  obtain ⟨u, hu, hf⟩ := hp y (List.mem_of_getElem? hy)
  unfold valV at hu
  cases hq : ls.find? (fun kv => decide (kv.1 = y.1)) with
  | none => rw [hq] at hu; cases hu
  | some z =>
    rw [hq] at hu
    cases hu
    have hz : z.1 = y.1 := by
      have := List.find?_some hq
      exact of_decide_eq_true this
    obtain ⟨j, hj, ej⟩ := List.mem_iff_getElem.mp (List.mem_of_find?_eq_some hq)
    obtain ⟨x, hx, e2, r2⟩ := fwd rb j z (by rw [List.getElem?_eq_getElem hj, ej])
    obtain ⟨k2, q, v'⟩ := x
    refine ⟨j, q, v', ?_, ih _ _ _ _ hf r1 r2⟩
    have : k2 = k := by
      have e1 : y.1 = k := e1
      have e2 : z.1 = k2 := e2
      rw [← e2, hz, e1]
    rw [hx, this]
section
variable {X : Cx} {pins : List (Addr × Obj)} {σ : L2.St} {H : Hp} {s : Shared}
theorem eqRX_run (I : Inv X pins σ H s) {A : Around} {F : V → V → Prop} (hu : A.units + 1 < cLine) (ih : ∀ x y v u, F x y → RelV x v → RelV y u → SeqAt.EqP X.prog X.w A.in1 s v u true) {x y : V} {v u : Value} (h : EqRX X.K H F x y) (rx : RelV x v) (ry : RelV y u)
    (E Q : Value → Shared → Prop) (q : Q (.bool true) s) : wpAny (model X.prog X.w) A (richCompare .Eq v u) Q E s := by
  rcases h with h | ⟨a, b, ks, ls, rfl, rfl, ha, hb, hl, hp⟩
  · exact eqR_run I (by omega) ih h rx ry E Q q
  · cases (show v = Value.ref a from rx)
    cases (show u = Value.ref b from ry)
    obtain ⟨_, ya, va, ra, da⟩ := dt_of I.hok ha
    obtain ⟨_, yb, vb, rb, db⟩ := dt_of I.hok hb
    refine rcT (knd := tupleKind (mixKind X.prog X.w)) ya yb (by omega) (tupleKind_room_in1 hu) da db ?_ (hits_runT ih rb ra hp) E Q q
    rw [← Paired.length ra, ← Paired.length rb]; exact hl
theorem eqX_run (I : Inv X pins σ H s) : ∀ (n : Nat) (A : Around), A.units + n + 65 < cLine → ∀ (x y : V) (v u : Value), EqX X.K H n x y → RelV x v → RelV y u → SeqAt.EqP X.prog X.w A s v u true
  | 0, _, _, _, _, _, _, h, _, _ => (show False from h).elim
  | n + 1, A, hu, x, y, v, u, h, rx, ry => by
    rcases h with ⟨rfl, f⟩ | ⟨a, rfl, rfl⟩ | ⟨d, e, hd, he, sd, se, ev⟩ | h
    · exact (eqAt_same rx ry f).eqP
    · cases (show v = Value.ref a from rx)
      cases (show u = Value.ref a from ry)
      exact (SeqAt.EqAt.same _).eqP
    · obtain ⟨as, r1⟩ := Dp.reads I d x v hd rx
      obtain ⟨bs, r2⟩ := Dp.reads I e y u he ry
      have := SeqAt.eqAt_reads d e A s v u as bs r1 r2 (SeqAt.canLay_of_shaped sd) (SeqAt.canLay_of_shaped se) (SeqAt.room_of_shaped sd (by omega))
      rw [ev] at this
      exact this.eqP
    · have step := eqRX_run I (A := A) (by omega) (eqX_run I n A.in1 (by show A.units + 1 + n + 65 < cLine; omega)) h rx ry
      obtain ⟨a, b, rfl, rfl⟩ : ∃ a b, x = .ref a ∧ y = .ref b := by
        rcases h with (⟨a, b, _, _, e1, e2, _⟩ | ⟨a, b, _, _, e1, e2, _⟩) | ⟨a, b, _, _, e1, e2, _⟩
        · exact ⟨a, b, e1, e2⟩
        · exact ⟨a, b, e1, e2⟩
        · exact ⟨a, b, e1, e2⟩
      cases (show v = Value.ref a from rx)
      cases (show u = Value.ref b from ry)
      by_cases e : a = b
      · subst e
        exact (SeqAt.EqAt.same _).eqP
      · exact SeqAt.eqP_refs e step
end
/-- a == b that are equal so -/
def rEqX (K : PySem.W.Frag) : R2 := fun x y H Q => ∃ n, n ≤ 60 ∧ EqRX K H (EqX K H n) x y ∧ Q (.bl true) H
theorem op_eqX {X : Cx} (hu : X.A.units + 130 < cLine) : OpR X (compareOp .Eq) (rEqX X.K) := by
  intro pins s σ H x y v u Q I rx ry h
  obtain ⟨n, hn, h, q⟩ := h
  exact eqRX_run I (A := X.A) (by omega) (eqX_run I n X.A.in1 (by show X.A.units + 1 + n + 65 < cLine; omega)) h rx ry _ _ ⟨.bl true, H, I, rfl, q⟩
theorem room130 {k : Nat} {A : Around} (r : Room k A) : A.units + 130 < cLine := by have := r.un; omega
end AL

set_option Elab.async false
set_option linter.all false
set_option maxRecDepth 100000
set_option maxHeartbeats 4000000
/-! AL26: instances: fields, methods, making; dicts with tuple keys. -/
namespace AL
open PySem PySem.Spec PyProof.Rows L2
def putFA (f : Str) (x : AV) : List (Str × AV) → List (Str × AV)
  | [] => [(f, x)]
  | (g, y) :: r => if g = f then (g, x) :: r else (g, y) :: putFA f x r
section
variable {K : PySem.W.Frag} {b : Cf} {sl : Sl} {st : Sto} {te ta tv td ty : TE} {t : TA} {x y z : AV} {e : DE} {c : Cf} {C : Addr} {f m : Str} {fs : List (Str × AV)} {n : Nat}
theorem rf_put {v : V} (rv : Rv K c v x) : ∀ {ws : List (Str × V)} {fs : List (Str × AV)}, Rf K c ws fs → Rf K c (putF f v ws) (putFA f x fs)
  | _, _, .nil => .cons ⟨rfl, rv⟩ .nil
  | (g1, v1) :: ws, (g2, x2) :: fs, .cons r t => by
    obtain ⟨r1, r2⟩ := r
    have r1 : g1 = g2 := r1
    subst r1
    unfold putF putFA
    by_cases h : g1 = f
    · rw [if_pos h, if_pos h]
      exact .cons ⟨rfl, rv⟩ t
    · rw [if_neg h, if_neg h]
      exact .cons ⟨rfl, r2⟩ (rf_put rv t)
theorem putFA_len : ∀ (fs : List (Str × AV)), (putFA f x fs).length ≤ fs.length + 1
  | [] => Nat.le_refl _
  | (g, y) :: r => by
    unfold putFA
    split
    · simp
    · have := putFA_len r
      simp only [List.length_cons]
      omega
theorem rf_none {ws : List (Str × V)} {fs : List (Str × AV)} (r : Rf K c ws fs) (h : fs.lookup f = none) : ws.lookup f = none := by
  unfold Rf at r
  induction r with
  | nil => rfl
  | @cons p q ps qs h1 _ ih =>
    obtain ⟨g1, v1⟩ := p
    obtain ⟨g2, x2⟩ := q
    have e : g1 = g2 := h1.1
    subst e
    rw [List.lookup_cons] at h ⊢
    cases hg : (f == g1) with
    | true => rw [hg] at h; cases h
    | false => rw [hg] at h; exact ih h
/-- e.f -/
theorem ev_fld (h : Ev K ta sl st (.o n)) (hn : st[n]? = some (.ins C fs)) (cl : Cls K C) (na : NoAttr K C f) (hl : fs.lookup f = some x) : Ev K (tFld K ta f) sl st x := fun c σ e s S Q q =>
  h c σ e s S _ fun v c1 t1 s1 e1 r1 => by
  obtain ⟨a, ia, rfl⟩ := r1
  obtain ⟨dx, ws, h1, h2⟩ := s1.ob n a _ ia (by rw [e1]; exact hn)
  obtain ⟨v, l, rv⟩ := rf_get h2 hl
  exact ⟨a, C, dx, ws, v, rfl, h1, cl, na, l, q v c1 t1 s1 e1 rv⟩
/-- e.f = v -/
theorem ws_fset (cl : Cls K C) (na : NoAttr K C f) (h : Wx K b tv sl st fun x st1 => ∃ n fs, Ev K ta sl st1 (.o n) ∧ st1[n]? = some (.ins C fs) ∧ fs.length < 1000 ∧ e.nx sl (st1.set n (.ins C (putFA f x fs)))) : Ws K b (sFld K ta tv f) sl st e := fun b' hb D d c σ ec tb s S =>
  h c σ ec (hb.trans tb) s S _ fun v c1 x t1 s1 r1 ⟨n, fs, ho, hn, hl, k⟩ => ho c1 σ rfl s1 (t1.ss S) _ fun w c2 t2 s2 e2 r2 => by
  obtain ⟨a, ia, rfl⟩ := r2
  have hn2 : c2.st[n]? = some (.ins C fs) := by rw [e2]; exact hn
  obtain ⟨dx, ws, h1, h2⟩ := s2.ob n a _ ia hn2
  refine ⟨a, C, dx, ws, rfl, h1, cl, na, by rw [show ws.length = fs.length from h2.length]; exact hl, ?_⟩
  have t4 := tr_put (ho := .ins C dx (putF f v ws)) (o := .ins C (putFA f x fs)) s2 ia hn2 (by intro z; cases z)
  have s4 : SR K (c2.put n a (.ins C dx (putF f v ws)) (.ins C (putFA f x fs))) := sr_put s2 ia hn2 (by intro z; cases z) ⟨dx, _, upd_same, rf_put ((t2.trans t4).rv r1) (paired_imp (fun _ _ r => ⟨r.1, t4.rv r.2⟩) h2)⟩
  exact d.nx (c2.put n a (.ins C dx (putF f v ws)) (.ins C (putFA f x fs))) σ sl (((tb.trans t1).trans t2).trans t4) s4 (((t1.trans t2).trans t4).ss S) (by
    show e.nx sl (c2.st.set n _)
    rw [e2]; exact k)
/-- e.f += i -/
theorem ws_faug {i j : Int} (cl : Cls K C) (na : NoAttr K C f) (ho : Ev K ta sl st (.o n)) (hn : st[n]? = some (.ins C fs)) (hf : fs.lookup f = some (dI i)) (hv : Ev K tv sl st (dI j)) (hl : fs.length < 1000) (k : e.nx sl (st.set n (.ins C (putFA f (dI (i + j)) fs)))) : Ws K b (sFldAug K ta tv rAdd f) sl st e := fun b' hb D d c σ ec tb s S =>
  ho c σ ec s S _ fun w c1 t1 s1 e1 r1 => by
  obtain ⟨a, ia, rfl⟩ := r1
  obtain ⟨dx, ws, h1, h2⟩ := s1.ob n a _ ia (by rw [e1]; exact hn)
  obtain ⟨v, l, rv⟩ := rf_get h2 hf
  cases rv_i rv
  refine ⟨a, C, dx, ws, .int i, rfl, h1, cl, na, l, hv c1 σ e1 s1 (t1.ss S) _ fun w c2 t2 s2 e2 r2 => ?_⟩
  cases rv_i r2
  have ia2 := t2.idx ia
  have hn2 : c2.st[n]? = some (.ins C fs) := by rw [e2]; exact hn
  obtain ⟨dx2, ws2, g1, g2⟩ := s2.ob n a _ ia2 hn2
  refine ⟨i, j, rfl, rfl, dx2, ws2, g1, by rw [show ws2.length = fs.length from g2.length]; exact hl, ?_⟩
  have t4 := tr_put (ho := .ins C dx2 (putF f (.int (i + j)) ws2)) (o := .ins C (putFA f (dI (i + j)) fs)) s2 ia2 hn2 (by intro z; cases z)
  have s4 : SR K (c2.put n a (.ins C dx2 (putF f (.int (i + j)) ws2)) (.ins C (putFA f (dI (i + j)) fs))) := sr_put s2 ia2 hn2 (by intro z; cases z) ⟨dx2, _, upd_same, rf_put (show Rv K _ (V.int (i + j)) (dI (i + j)) from Dt.int _) (paired_imp (fun _ _ r => ⟨r.1, t4.rv r.2⟩) g2)⟩
  exact d.nx (c2.put n a (.ins C dx2 (putF f (.int (i + j)) ws2)) (.ins C (putFA f (dI (i + j)) fs))) σ sl (((tb.trans t1).trans t2).trans t4) s4 (((t1.trans t2).trans t4).ss S) (by
    show e.nx sl (c2.st.set n _)
    rw [e2]; exact k)
/-- o.m(..) -/
theorem wx_met {F : DS} {W : WX} {G : Sl → AE → Sto → Prop} {dvs : List V} {ds : List AV} {Φ : AV → Sto → Prop} (hW : ErrOk K b W G) (hd : ∀ c, Rvs K c dvs ds) (ho : Ev K ta sl st (.o n)) (hn : st[n]? = some (.ins C fs)) (hm : fs.lookup m = none) (h : Wa K b t sl st fun xs st1 => F (.o n :: (xs ++ ds)) st1 Φ (G sl)) :
    Wx K b (tMetW C m (spD K F) dvs W ta t) sl st Φ := fun c σ e tb s S Q q =>
  ho c σ e s S _ fun w c1 t1 s1 e1 r1 => by
  obtain ⟨a, ia, rfl⟩ := r1
  obtain ⟨dx, ws, h1, h2⟩ := s1.ob n a _ ia (by rw [e1]; exact hn)
  refine ⟨a, dx, ws, rfl, h1, rf_none h2 hm, h c1 σ e1 (tb.trans t1) s1 (t1.ss S) _ fun vs c2 xs t2 s2 r2 f => ?_⟩
  exact ⟨c2, .o n :: (xs ++ ds), Φ, G sl, rfl, s2, .cons ⟨a, t2.idx ia, rfl⟩ (paired_app r2 (hd c2)), f, fun v c3 x t3 s3 r3 k => q v c3 x ((t1.trans t2).trans t3) s3 r3 k, fun cls dd c3 a' t3 s3 r3 k => hW cls dd c3 σ sl a' (((tb.trans t1).trans t2).trans t3) s3 (((t1.trans t2).trans t3).ss S) r3 k⟩
/-- .. always the same, without an exception -/
theorem ev_met {F : DS} {W : WX} {dvs : List V} {ds xs : List AV} (hd : ∀ c, Rvs K c dvs ds) (ho : Ev K ta sl st (.o n)) (hn : st[n]? = some (.ins C fs)) (hm : fs.lookup m = none) (ha : Ea K t sl st xs) (hf : F (.o n :: (xs ++ ds)) st (fun y st' => y = x ∧ st' = st) (fun _ _ => False)) :
    Ev K (tMetW C m (spD K F) dvs W ta t) sl st x := fun c σ e s S Q q =>
  ho c σ e s S _ fun w c1 t1 s1 e1 r1 => by
  obtain ⟨a, ia, rfl⟩ := r1
  obtain ⟨dx, ws, h1, h2⟩ := s1.ob n a _ ia (by rw [e1]; exact hn)
  refine ⟨a, dx, ws, rfl, h1, rf_none h2 hm, ha c1 σ e1 s1 (t1.ss S) _ fun vs c2 t2 s2 e2 r2 => ?_⟩
  exact ⟨c2, .o n :: (xs ++ ds), _, _, rfl, s2, .cons ⟨a, t2.idx ia, rfl⟩ (paired_app r2 (hd c2)), by rw [e2]; exact hf, fun v c3 y t3 s3 r3 k => by
    obtain ⟨k1, k2⟩ := k
    subst k1
    exact q v c3 ((t1.trans t2).trans t3) s3 k2 r3, fun cls dd c3 a' t3 s3 r3 k => False.elim k⟩
/-- C(..) -/
theorem wx_mak {F : DS} {W : WX} {G : Sl → AE → Sto → Prop} {dvs : List V} {ds : List AV} {Φ : AV → Sto → Prop} (hW : ErrOk K b W G) (hd : ∀ c, Rvs K c dvs ds) (h : Wa K b t sl st fun xs st1 => F (.o st1.length :: (xs ++ ds)) (st1 ++ [.ins C []]) (fun x st2 => x = dN ∧ Φ (.o st1.length) st2) (G sl)) :
    Wx K b (tMakW C (spD K F) dvs W t) sl st Φ := fun c σ e tb s S Q q =>
  h c σ e tb s S _ fun vs c1 xs t1 s1 r1 f => fun p dx hp hdx hne => by
  obtain ⟨t2, s2, n2⟩ := tr_new (o := .own p) s1 hdx
  have hp2 : (c1.new dx (.own p)).hp p = none := by
    show upd c1.hp dx _ p = none
    rw [upd_ne (Ne.symm hne)]; exact hp
  have t3 := tr_add (ho := .ins C dx []) (o := .ins C []) s2 hp2
  have s3 : SR K ((c1.new dx (.own p)).add p (.ins C dx []) (.ins C [])) := sr_add s2 hp2 ⟨dx, [], upd_same, .nil⟩
  have i3 : ((c1.new dx (.own p)).add p (.ins C dx []) (.ins C [])).al[c1.st.length]? = some p := add_idx s2
  have T := t2.trans t3
  exact ⟨(c1.new dx (.own p)).add p (.ins C dx []) (.ins C []), .o c1.st.length :: (xs ++ ds), _, _, rfl, s3, .cons ⟨p, i3, rfl⟩ (paired_app (paired_imp (fun _ _ r => T.rv r) r1) (hd _)), f, fun v c4 x t4 s4 r4 ⟨k1, k2⟩ => by
    subst k1
    cases r4
    exact ⟨rfl, q (.ref p) c4 (.o c1.st.length) ((t1.trans T).trans t4) s4 ⟨p, t4.idx i3, rfl⟩ k2⟩, fun cls dd c4 a' t4 s4 r4 k => hW cls dd c4 σ sl a' (((tb.trans t1).trans T).trans t4) s4 (((t1.trans T).trans t4).ss S) r4 k⟩
/-! ### dicts with tuple keys -/
def tupK (k : List Key) : PyData := .tuple (k.map kD)
def valT (kvs : List (List Key × AV)) (k : List Key) : Option AV := (kvs.find? fun kv => decide (kv.1 = k)).map (·.2)
def putT (kvs : List (List Key × AV)) (k : List Key) (v : AV) : List (List Key × AV) := if (kvs.any fun kv => decide (kv.1 = k)) = true then kvs.map (fun kv => if kv.1 = k then (kv.1, v) else kv) else kvs ++ [(k, v)]
theorem rkt_any (k : List Key) : ∀ {ws : List (List Key × V)} {kvs : List (List Key × AV)}, Rkt K c ws kvs → (ws.any fun kv => decide (kv.1 = k)) = (kvs.any fun kv => decide (kv.1 = k))
  | _, _, .nil => rfl
  | (_, _) :: _, (_, _) :: _, .cons r t => by
    have e := r.1
    simp only [List.any_cons, rkt_any k t] at e ⊢
    rw [e]
theorem rkt_val (k : List Key) : ∀ {ws : List (List Key × V)} {kvs : List (List Key × AV)}, Rkt K c ws kvs → match valT kvs k with
    | some x => ∃ v, valV ws k = some v ∧ Rv K c v x
    | none => valV ws k = none
  | _, _, .nil => rfl
  | (k1, v1) :: ws, (k2, x2) :: kvs, .cons r t => by
    obtain ⟨r1, r2⟩ := r
    have r1 : k1 = k2 := r1
    subst r1
    have ih := rkt_val k t
    unfold valT valV at ih ⊢
    by_cases h : k1 = k
    · subst h
      simp only [List.find?_cons, decide_true, Option.map_some]
      exact ⟨v1, rfl, r2⟩
    · simp only [List.find?_cons, h, decide_false]
      exact ih
theorem rkt_put (k : List Key) {v : V} {x : AV} (rv : Rv K c v x) {ws : List (List Key × V)} {kvs : List (List Key × AV)} (r : Rkt K c ws kvs) : Rkt K c (putK ws k v) (putT kvs k x) := by
  have m : ∀ {ws : List (List Key × V)} {kvs : List (List Key × AV)}, Rkt K c ws kvs → Rkt K c (ws.map fun kv => if kv.1 = k then (kv.1, v) else kv) (kvs.map fun kv => if kv.1 = k then (kv.1, x) else kv) := by
    intro ws kvs r
    induction r with
    | nil => exact .nil
    | @cons p q _ _ h _ ih =>
      obtain ⟨h1, h2⟩ := h
      refine .cons ?_ ih
      dsimp only
      by_cases hk : p.1 = k
      · rw [if_pos hk, if_pos (h1 ▸ hk)]
        exact ⟨h1, rv⟩
      · rw [if_neg hk, if_neg (h1 ▸ hk)]
        exact ⟨h1, h2⟩
  unfold putK putT
  rw [rkt_any k r]
  by_cases h : (kvs.any fun kv => decide (kv.1 = k)) = true
  · rw [if_pos h, if_pos h]
    exact m r
  · rw [if_neg h, if_neg h]
    exact paired_app r (.cons ⟨rfl, rv⟩ .nil)
theorem kds_rv {M : Addr → Prop} {H : Hp} : ∀ {k : List Key} {us : List V}, DtA K M H us (k.map kD) → us = k.map kV
  | [], _, .nil => rfl
  | k :: ks, u :: us, .cons r t => by
    have h1 : u = kV k := by
      cases k with
      | inl i => cases r; rfl
      | inr s => cases r; rfl
    rw [h1, kds_rv t]
    rfl
/-- a tuple as a key -/
theorem tupK_rv {v : V} {k : List Key} (r : Rv K c v (.d (tupK k))) : ∃ q, v = .ref q ∧ c.hp q = some (.tup (k.map kV)) := by
  have r : Dt K c.Alive c.hp v (.tuple (k.map kD)) := r
  cases r with
  | @tup a xs _ n h1 d1 =>
    rw [kds_rv d1] at h1
    exact ⟨a, rfl, h1⟩
theorem ev_dgetT {kvs : List (List Key × AV)} {k : List Key} (hd : Ev K td sl st (.o n)) (hk : Ev K ty sl st (.d (tupK k))) (hn : st[n]? = some (.dt kvs)) (hv : valT kvs k = some x) : Ev K (tDGet td ty) sl st x := fun c σ e s S Q q =>
  hd c σ e s S _ fun v c1 t1 s1 e1 r1 => hk c1 σ e1 s1 (t1.ss S) _ fun w c2 t2 s2 e2 r2 => by
  obtain ⟨a, ia, rfl⟩ := t2.rv (x := .o n) r1
  obtain ⟨ws, h1, d1⟩ := s2.ob n a _ ia (by rw [e2]; exact hn)
  have hh := rkt_val k d1
  rw [hv] at hh
  obtain ⟨u, hu, ru⟩ := hh
  obtain ⟨q2, rfl, hq2⟩ := tupK_rv r2
  exact ⟨a, u, rfl, hu ▸ DGet.t h1 hq2, q u c2 (t1.trans t2) s2 e2 ru⟩
theorem ev_dinT {kvs : List (List Key × AV)} {k : List Key} (hk : Ev K ty sl st (.d (tupK k))) (hd : Ev K td sl st (.o n)) (hn : st[n]? = some (.dt kvs)) : Ev K (tDIn ty td) sl st (dB (valT kvs k).isSome) := fun c σ e s S Q q =>
  hk c σ e s S _ fun w c1 t1 s1 e1 r1 => hd c1 σ e1 s1 (t1.ss S) _ fun v c2 t2 s2 e2 r2 => by
  obtain ⟨a, ia, rfl⟩ := r2
  obtain ⟨ws, h1, d1⟩ := s2.ob n a _ ia (by rw [e2]; exact hn)
  have hh := rkt_val k d1
  obtain ⟨q2, rfl, hq2⟩ := tupK_rv (t2.rv (x := .d (tupK k)) r1)
  refine ⟨a, valV ws k, rfl, DGet.t h1 hq2, ?_⟩
  have e3 : (valV ws k).isSome = (valT kvs k).isSome := by
    cases hv : valT kvs k with
    | none => rw [hv] at hh; rw [hh]; rfl
    | some x => rw [hv] at hh; obtain ⟨u, hu, _⟩ := hh; rw [hu]; rfl
  rw [e3]
  exact q _ c2 (t1.trans t2) s2 e2 (.bl _)
theorem ev_dnotinT {kvs : List (List Key × AV)} {k : List Key} (hk : Ev K ty sl st (.d (tupK k))) (hd : Ev K td sl st (.o n)) (hn : st[n]? = some (.dt kvs)) : Ev K (tDNotIn ty td) sl st (dB (!(valT kvs k).isSome)) := fun c σ e s S Q q =>
  hk c σ e s S _ fun w c1 t1 s1 e1 r1 => hd c1 σ e1 s1 (t1.ss S) _ fun v c2 t2 s2 e2 r2 => by
  obtain ⟨a, ia, rfl⟩ := r2
  obtain ⟨ws, h1, d1⟩ := s2.ob n a _ ia (by rw [e2]; exact hn)
  have hh := rkt_val k d1
  obtain ⟨q2, rfl, hq2⟩ := tupK_rv (t2.rv (x := .d (tupK k)) r1)
  refine ⟨a, valV ws k, rfl, DGet.t h1 hq2, ?_⟩
  have e3 : (valV ws k).isSome = (valT kvs k).isSome := by
    cases hv : valT kvs k with
    | none => rw [hv] at hh; rw [hh]; rfl
    | some x => rw [hv] at hh; obtain ⟨u, hu, _⟩ := hh; rw [hu]; rfl
  rw [e3]
  exact q _ c2 (t1.trans t2) s2 e2 (.bl _)
/-- d.get(k) -/
theorem ev_dget1T {kvs : List (List Key × AV)} {k : List Key} (hd : Ev K td sl st (.o n)) (hk : Ev K ty sl st (.d (tupK k))) (hn : st[n]? = some (.dt kvs)) (hv : (valT kvs k).getD dN = x) : Ev K (tDGet1 td ty) sl st x := fun c σ e s S Q q =>
  hd c σ e s S _ fun v c1 t1 s1 e1 r1 => by
  obtain ⟨a, ia, rfl⟩ := r1
  obtain ⟨ws1, g1, _⟩ := s1.ob n a _ ia (by rw [e1]; exact hn)
  refine ⟨a, rfl, Or.inr ⟨ws1, Or.inl g1⟩, hk c1 σ e1 s1 (t1.ss S) _ fun w c2 t2 s2 e2 r2 => ?_⟩
  obtain ⟨ws, h1, d1⟩ := s2.ob n a _ (t2.idx ia) (by rw [e2]; exact hn)
  have hh := rkt_val k d1
  obtain ⟨q2, rfl, hq2⟩ := tupK_rv r2
  refine ⟨valV ws k, DGet.t h1 hq2, ?_⟩
  cases hvv : valT kvs k with
  | none =>
    rw [hvv] at hh hv
    rw [hh]
    have hv : dN = x := hv
    subst hv
    exact q _ c2 (t1.trans t2) s2 e2 .non
  | some y =>
    rw [hvv] at hh hv
    obtain ⟨u, hu, ru⟩ := hh
    have hv : y = x := hv
    subst hv
    rw [hu]
    exact q u c2 (t1.trans t2) s2 e2 ru
/-- d[k] = v -/
theorem ws_dputT (h : Wx K b tv sl st fun x st1 => ∃ (n : Nat) (k : List Key) (kvs : List (List Key × AV)), Ev K td sl st1 (.o n) ∧ Ev K ty sl st1 (.d (tupK k)) ∧ st1[n]? = some (.dt kvs) ∧ kvs.length ≤ 10000000 ∧ e.nx sl (st1.set n (.dt (putT kvs k x)))) :
    Ws K b (sDPut td ty tv) sl st e := fun b' hb D d c σ ec tb s S => h c σ ec (hb.trans tb) s S _ fun v c1 x t1 s1 r1 ⟨n, k, kvs, ho, hk, hn, hz, q⟩ =>
  ho c1 σ rfl s1 (t1.ss S) _ fun vo c2 t2 s2 e2 r2 => hk c2 σ e2 s2 ((t1.trans t2).ss S) _ fun vi c3 t3 s3 e3 r3 => by
  obtain ⟨a, ia, rfl⟩ := t3.rv (x := .o n) r2
  have hn3 : c3.st[n]? = some (.dt kvs) := by rw [e3]; exact hn
  obtain ⟨ws, h1, d1⟩ := s3.ob n a _ ia hn3
  have hl : ws.length = kvs.length := d1.length
  have t4 := tr_put (ho := .dT (putK ws k v)) (o := .dt (putT kvs k x)) s3 ia hn3 (by intro z; cases z)
  have s4 : SR K (c3.put n a (.dT (putK ws k v)) (.dt (putT kvs k x))) := sr_put s3 ia hn3 (by intro z; cases z) ⟨_, upd_same, rkt_put k (((t2.trans t3).trans t4).rv r1) (paired_imp (fun _ _ r => ⟨r.1, t4.rv r.2⟩) d1)⟩
  obtain ⟨q2, rfl, hq2⟩ := tupK_rv r3
  refine ⟨a, _, rfl, DPut.t h1 hq2 (Nat.lt_of_le_of_lt (by rw [hl]; exact hz) (by rw [sizeLine_eq]; decide)), ?_⟩
  exact d.nx (c3.put n a (.dT (putK ws k v)) (.dt (putT kvs k x))) σ sl ((((tb.trans t1).trans t2).trans t3).trans t4) s4 ((((t1.trans t2).trans t3).trans t4).ss S) (by
    show e.nx sl (c3.st.set n _)
    rw [e3]; exact q)
/-- {(..): v} -/
theorem wx_dispT1 {Φ : AV → Sto → Prop} {tk : TE} {k : List Key} (h1 : Ev K tk sl (st ++ [.dt []]) (.d (tupK k))) (h2 : Ev K tv sl (st ++ [.dt []]) x) (q0 : Φ (.o st.length) (st ++ [.dt [(k, x)]])) : Wx K b (tDispT1 tk tv) sl st Φ := fun c σ e tb s S Q q p hp => by
  have t1 := tr_add (ho := .dT []) (o := .dt []) s hp
  have s1 : SR K (c.add p (.dT []) (.dt [])) := sr_add s hp ⟨[], upd_same, .nil⟩
  have i1 : (c.add p (.dT []) (.dt [])).al[st.length]? = some p := by rw [← e]; exact add_idx s
  refine h1 (c.add p (.dT []) (.dt [])) σ (by show c.st ++ _ = _; rw [e]) s1 (t1.ss S) _ fun u c2 t2 s2 e2 r2 => h2 c2 σ e2 s2 ((t1.trans t2).ss S) _ fun w c3 t3 s3 e3 r3 => ?_
  obtain ⟨q2, rfl, hq2⟩ := tupK_rv (t3.rv (x := .d (tupK k)) r2)
  have i3 := (t2.trans t3).idx i1
  have n3 : c3.st[st.length]? = some (.dt []) := by rw [e3]; simp
  obtain ⟨ws0, h0, d0⟩ := s3.ob _ p _ i3 n3
  cases d0
  have t4 := tr_put (ho := .dT [(k, w)]) (o := .dt [(k, x)]) s3 i3 n3 (by intro z; cases z)
  have s4 : SR K (c3.put st.length p (.dT [(k, w)]) (.dt [(k, x)])) := sr_put s3 i3 n3 (by intro z; cases z) ⟨_, upd_same, .cons ⟨rfl, t4.rv r3⟩ .nil⟩
  refine ⟨q2, k, w, rfl, hq2, h0, q (.ref p) (c3.put st.length p (.dT [(k, w)]) (.dt [(k, x)])) (.o st.length) (((t1.trans t2).trans t3).trans t4) s4 ⟨p, t4.idx i3, rfl⟩ ?_⟩
  show Φ _ (c3.st.set st.length _)
  rw [e3]
  have : (st ++ [AO.dt []]).set st.length (.dt [(k, x)]) = st ++ [.dt [(k, x)]] := by simp
  rw [this]
  exact q0
end
end AL

set_option Elab.async false
set_option linter.all false
set_option maxRecDepth 100000
set_option maxHeartbeats 4000000
/-! AL27: comprehensions over an instance's dicts, on the heap itself. -/
namespace AL
open PySem PySem.Spec PyProof.Rows L2
theorem ifT {A B : Prop} (h : A) : if true = true then A else B := by rw [if_pos rfl]; exact h
theorem ifB {A B : Prop} {b : Bool} (h1 : b = true → A) (h2 : b = false → B) : if b = true then A else B := by
  cases b with
  | true => rw [if_pos rfl]; exact h1 rfl
  | false => rw [if_neg (by decide)]; exact h2 rfl
theorem upd_swap {H : Hp} {a b : Addr} {x y : HO} (h : a ≠ b) : upd (upd H a x) b y = upd (upd H b y) a x := by
  funext c
  by_cases h1 : c = b
  · subst h1
    rw [upd_same, upd_ne (Ne.symm h), upd_same]
  · rw [upd_ne h1]
    by_cases h2 : c = a
    · subst h2
      rw [upd_same, upd_same]
    · rw [upd_ne h2, upd_ne h2, upd_ne h1]
theorem upd_twice {H : Hp} {a : Addr} {x y : HO} : upd (upd H a x) a y = upd H a y := by
  funext c
  by_cases h : c = a
  · subst h; rw [upd_same, upd_same]
  · rw [upd_ne h, upd_ne h, upd_ne h]
theorem upd_self {H : Hp} {a : Addr} {x : HO} (h : H a = some x) : upd H a x = H := by
  funext c
  by_cases h1 : c = a
  · subst h1; rw [upd_same, h]
  · rw [upd_ne h1]
def isRef : V → Bool
  | .ref _ => true
  | _ => false
section
variable {K : PySem.W.Frag} {C a dx T A : Addr} {fs : List (Str × V)} {σ : L2.St} {H : Hp} {Q : VK} {f : Str}
/-- [v for v in self.f.values() if v is not None] -/
theorem lc_valsT {ws : List (List Key × V)} {i : Nat} (hσ : σ[0]? = some (some (.ref a))) (ha : H a = some (.ins C dx fs)) (cl : Cls K C) (na : NoAttr K C f) (hf : fs.lookup f = some (.ref T)) (hT : H T = some (.dT ws)) (haT : a ≠ T) (hv : ∀ p ∈ ws, p.2 = .non ∨ isRef p.2 = true) (hl : ws.length ≤ 1000) (hi : 0 < i ∧ i < σ.length)
    (q : ∀ D, H D = none → Q (.ref D) (upd H D (.lst ((ws.map (·.2)).filter isRef)))) :
    tLockE (tLc (iValsT (tFld K (tVar 0) f)) (gName i) (tTest (tOp rNotN (tVar i) (tC .non))) (tVar i) [i]) σ H Q := by
  refine ⟨T, .dT ws, hT, trivial, fun od => ?_⟩
  have haT2 : upd H T (.frz od (.dT ws)) a = some (.ins C dx fs) := by rw [upd_ne haT]; exact ha
  refine ⟨.ref a, hσ, a, C, dx, fs, .ref T, rfl, haT2, cl, na, hf, T, od, ws, rfl, upd_same, fun D hD => ?_⟩
  have hDT : D ≠ T := fun z => by rw [z, upd_same] at hD; cases hD
  have hD0 : H D = none := by rwa [upd_ne hDT] at hD
  refine ⟨fun j m H' => m = ws.length - j ∧ j ≤ ws.length ∧ H' = upd (upd H T (.frz od (.dT ws))) D (.lst (((ws.take j).map (·.2)).filter isRef)), ⟨_, rfl, Nat.zero_le _, rfl⟩, ?_⟩
  rintro j m H' ⟨rfl, hj, rfl⟩
  have hTl : upd (upd H T (.frz od (.dT ws))) D (.lst (((ws.take j).map (·.2)).filter isRef)) T = some (.frz od (.dT ws)) := by rw [upd_ne (Ne.symm hDT), upd_same]
  by_cases hlt : j < ws.length
  · refine Or.inr ⟨⟨hTl, hlt⟩, fun H' => H' = upd (upd H T (.frz od (.dT ws))) D (.lst (((ws.take (j + 1)).map (·.2)).filter isRef)), fun H' e => ⟨ws.length - (j + 1), by omega, rfl, hlt, e⟩, ?_⟩
    rintro x H2 ⟨rfl, k, hk⟩
    have hx := hv _ (List.mem_of_getElem? hk)
    have et : ws.take (j + 1) = ws.take j ++ [(k, x)] := take_get hk
    have hwl : (wipe σ [i])[i]? = some none := by rw [wipe_get, if_pos (by simp), if_pos hi.2]
    have hil : i < (wipe σ [i]).length := (List.getElem?_eq_some_iff.mp hwl).1
    have hset : ((wipe σ [i]).set i (some x))[i]? = some (some x) := List.getElem?_set_self hil
    refine ⟨by rw [wipe_set (by simp), wipe_wipe], x, hset, rfl, (!decide (x = .non)), rfl, ?_⟩
    rcases hx with hx | hx
    · have hx : x = .non := hx
      subst hx
      rw [if_neg (by decide)]
      show _ = _
      rw [et, List.map_append, List.filter_append]
      simp [isRef]
    · have hx : isRef x = true := hx
      have hn : decide (x = V.non) = false := by
        cases x with
        | non => cases hx
        | _ => rfl
      rw [hn, if_pos (by decide)]
      refine ⟨x, hset, _, upd_same, ?_, ?_⟩
      · have h1 := List.length_filter_le isRef ((ws.take j).map (·.2))
        rw [List.length_map, List.length_take] at h1
        rw [sizeLine_eq]
        omega
      · show _ = _
        rw [upd_twice, et, List.map_append, List.filter_append]
        simp [hx]
  · have e : j = ws.length := by omega
    subst e
    refine Or.inl ⟨⟨hTl, Nat.le_refl _⟩, hTl, ?_⟩
    rw [List.take_length, upd_swap (Ne.symm hDT), upd_twice, upd_self (by rw [upd_ne (Ne.symm hDT)]; exact hT)]
    exact q D hD0
/-- [.. for .. in self.f.values()] of a dict without entries -/
theorem lc_vals0 {g : TG} {tt : TT} {te : TE} {vs : List Nat} (hσ : σ[0]? = some (some (.ref a))) (ha : H a = some (.ins C dx fs)) (cl : Cls K C) (na : NoAttr K C f) (hf : fs.lookup f = some (.ref A)) (hA : H A = some (.dK [])) (haA : a ≠ A)
    (q : ∀ D, H D = none → Q (.ref D) (upd H D (.lst []))) : tLockE (tLc (iVals (tFld K (tVar 0) f)) g tt te vs) σ H Q := by
  refine ⟨A, .dK [], hA, trivial, fun od => ?_⟩
  have ha2 : upd H A (.frz od (.dK [])) a = some (.ins C dx fs) := by rw [upd_ne haA]; exact ha
  refine ⟨.ref a, hσ, a, C, dx, fs, .ref A, rfl, ha2, cl, na, hf, A, od, [], rfl, upd_same, fun D hD => ?_⟩
  have hDA : D ≠ A := fun z => by rw [z, upd_same] at hD; cases hD
  have hD0 : H D = none := by rwa [upd_ne hDA] at hD
  refine ⟨fun j m H' => j = 0 ∧ H' = upd (upd H A (.frz od (.dK []))) D (.lst []), ⟨0, rfl, rfl⟩, ?_⟩
  rintro j m H' ⟨rfl, rfl⟩
  have hAl : upd (upd H A (.frz od (.dK []))) D (.lst []) A = some (.frz od (.dK [])) := by rw [upd_ne (Ne.symm hDA), upd_same]
  refine Or.inl ⟨⟨hAl, Nat.le_refl _⟩, hAl, ?_⟩
  rw [upd_swap (Ne.symm hDA), upd_twice, upd_self (by rw [upd_ne (Ne.symm hDA)]; exact hA)]
  exact q D hD0
end
def addI (acc : List (Key × V)) (n : Int) : List (Key × V) := putK acc (.inl n) (.bl true)
def addL (acc : List (Key × V)) (p : Addr × List Int) : List (Key × V) := p.2.foldl addI acc
def keysL (Ls : List (Addr × List Int)) : List (Key × V) := Ls.foldl addL []
def keepR (there rows : List (Key × V)) : List (Key × V) := (rows.filter fun kv => (valV there kv.1).isSome).foldl (fun acc kv => putK acc kv.1 kv.2) []
theorem addI_len : ∀ (ns : List Int) (acc : List (Key × V)), (ns.foldl addI acc).length ≤ acc.length + ns.length
  | [], acc => by simp
  | n :: ns, acc => by
    have h1 := addI_len ns (addI acc n)
    have h2 := length_putK acc (.inl n) (.bl true)
    rw [List.foldl_cons, List.length_cons]
    unfold addI at h1 ⊢
    omega
theorem addL_len : ∀ (Ls : List (Addr × List Int)) (acc : List (Key × V)), (Ls.foldl addL acc).length ≤ acc.length + (Ls.map fun p => p.2.length).sum
  | [], acc => by simp
  | p :: Ls, acc => by
    have h1 := addL_len Ls (addL acc p)
    have h2 := addI_len p.2 acc
    rw [List.foldl_cons, List.map_cons, List.sum_cons]
    unfold addL at h1 h2 ⊢
    omega
theorem keep_len : ∀ (l : List (Key × V)) (acc : List (Key × V)), (l.foldl (fun acc kv => putK acc kv.1 kv.2) acc).length ≤ acc.length + l.length
  | [], acc => by simp
  | p :: l, acc => by
    have h1 := keep_len l (putK acc p.1 p.2)
    have h2 := length_putK acc p.1 p.2
    rw [List.foldl_cons, List.length_cons]
    omega
section
variable {K : PySem.W.Frag} {C a dx T A R : Addr} {fs : List (Str × V)} {σ : L2.St} {H : Hp} {Q : VK} {f : Str}
/-- {n: True for l in (the list at D) for n in l}, where the list has come -/
theorem dc2_lists {D0 : Addr} {Ls : List (Addr × List Int)} {i j : Nat} (hD0 : H D0 = some (.lst (Ls.map fun p => V.ref p.1))) (hL : ∀ p ∈ Ls, H p.1 = some (.lst (p.2.map V.int))) (hz : (Ls.map fun p => p.2.length).sum ≤ 100000) (hi : i < σ.length ∧ j < σ.length ∧ i ≠ j)
    (q : ∀ D, H D = none → Q (.ref D) (upd H D (.dK (keysL Ls)))) :
    ∀ D, H D = none → ∃ W : Nat → Nat → Hp → Prop, (∃ m, W 0 m (upd H D (.dK []))) ∧ ∀ i' m H', W i' m H' →
      ((Itl K D0).stop i' H' ∧ Q (.ref D) H') ∨ ((Itl K D0).go i' H' ∧ ∃ Nx : Hp → Prop, (∀ H', Nx H' → ∃ m', m' < m ∧ W (i' + 1) m' H') ∧ ∀ x H'', (Itl K D0).yld i' H' x H'' → gName i x (wipe σ [i, j]) H'' fun σ2 H2 => wipe σ2 [i, j] = wipe σ [i, j] ∧ tYes σ2 H2 fun b H3 =>
        if b = true then iList K (tVar i) σ2 H3 fun J1 H4 => ∃ W1 : Nat → Nat → Hp → Prop, (∃ m, W1 0 m H4) ∧ ∀ j' k H, W1 j' k H →
          (J1.stop j' H ∧ Nx H) ∨ (J1.go j' H ∧ ∃ Nx1 : Hp → Prop, (∀ H', Nx1 H' → ∃ k', k' < k ∧ W1 (j' + 1) k' H') ∧ ∀ x H', J1.yld j' H x H' → gName j x (wipe σ2 [j]) H' fun σ3 H5 => wipe σ3 [j] = wipe σ2 [j] ∧ tYes σ3 H5 fun b H6 =>
            if b = true then tVar j σ3 H6 fun y H7 => tC (.bl true) σ3 H7 fun z H8 => ∃ kvs k, y = kV k ∧ H8 D = some (.dK kvs) ∧ kvs.length < sizeLine ∧ Nx1 (upd H8 D (.dK (putK kvs k z))) else Nx1 H6)
        else Nx H3) := fun D hD => by
  have hlen : (Ls.map fun p => V.ref p.1).length = Ls.length := List.length_map ..
  refine ⟨fun i' m H' => m = Ls.length - i' ∧ i' ≤ Ls.length ∧ H' = upd H D (.dK ((Ls.take i').foldl addL [])), ⟨_, rfl, Nat.zero_le _, rfl⟩, ?_⟩
  rintro i' m H' ⟨rfl, hle, rfl⟩
  have sq : ∀ {b : Addr} {xs : List V} {o : HO}, H b = some (.lst xs) → SqL K (upd H D o) b xs := fun {b xs o} e => Or.inl (Or.inl (by rw [upd_ne (fun z => by rw [z, hD] at e; cases e)]; exact e))
  by_cases hlt : i' < Ls.length
  · have hp? : Ls[i']? = some Ls[i'] := List.getElem?_eq_getElem hlt
    obtain ⟨L, ns, hLn⟩ : ∃ L ns, Ls[i'] = (L, ns) := ⟨_, _, rfl⟩
    rw [hLn] at hp?
    have hx? : (Ls.map fun p => V.ref p.1)[i']? = some (.ref L) := by rw [List.getElem?_map, hp?]; rfl
    have hLl := hL _ (List.mem_of_getElem? hp?)
    refine Or.inr ⟨⟨_, .ref L, sq hD0, hx?⟩, fun H' => H' = upd H D (.dK ((Ls.take (i' + 1)).foldl addL [])), fun H' e => ⟨_, by omega, rfl, hlt, e⟩, ?_⟩
    rintro x H2 ⟨rfl, hx⟩
    have hx := hx _ (sq hD0)
    rw [hx?] at hx
    cases hx
    have w1 : (wipe σ [i, j])[i]? = some none := by rw [wipe_get, if_pos (by simp), if_pos hi.1]
    have hil : i < (wipe σ [i, j]).length := (List.getElem?_eq_some_iff.mp w1).1
    have hset : ((wipe σ [i, j]).set i (some (.ref L)))[i]? = some (some (.ref L)) := List.getElem?_set_self hil
    refine ⟨by rw [wipe_set (by simp), wipe_wipe], ?_⟩
    refine ⟨.ref L, hset, L, rfl, ⟨_, sq hLl⟩, ?_⟩
    refine ⟨fun j' k H' => k = ns.length - j' ∧ j' ≤ ns.length ∧ H' = upd H D (.dK ((ns.take j').foldl addI ((Ls.take i').foldl addL []))), ⟨_, rfl, Nat.zero_le _, rfl⟩, ?_⟩
    rintro j' k H' ⟨rfl, hle', rfl⟩
    by_cases hlt' : j' < ns.length
    · have hn? : ns[j']? = some ns[j'] := List.getElem?_eq_getElem hlt'
      have hv? : (ns.map V.int)[j']? = some (.int ns[j']) := by rw [List.getElem?_map, hn?]; rfl
      refine Or.inr ⟨⟨_, .int ns[j'], sq hLl, hv?⟩, fun H' => H' = upd H D (.dK ((ns.take (j' + 1)).foldl addI ((Ls.take i').foldl addL []))), fun H' e => ⟨_, by omega, rfl, hlt', e⟩, ?_⟩
      rintro x H3 ⟨rfl, hx⟩
      have hx := hx _ (sq hLl)
      rw [hv?] at hx
      cases hx
      generalize hσ2 : (wipe σ [i, j]).set i (some (V.ref L)) = σ2
      have hl2 : j < σ2.length := by rw [← hσ2, List.length_set, L2.wipe_length]; exact hi.2.1
      have hl3 : j < (wipe σ2 [j]).length := by rw [L2.wipe_length]; exact hl2
      have hset3 : ((wipe σ2 [j]).set j (some (.int ns[j'])))[j]? = some (some (.int ns[j'])) := List.getElem?_set_self hl3
      refine ⟨by rw [wipe_set (by simp), wipe_wipe], ?_⟩
      have ln := addI_len (ns.take j') ((Ls.take i').foldl addL [])
      have ln2 := addL_len (Ls.take i') []
      have hsum : ((Ls.take i').map fun p => p.2.length).sum + ns.length ≤ (Ls.map fun p => p.2.length).sum := by
        have e1 : Ls.map (fun p => p.2.length) = (Ls.take i').map (fun p => p.2.length) ++ (Ls.drop i').map (fun p => p.2.length) := by rw [← List.map_append, List.take_append_drop]
        have e2 : Ls.drop i' = (L, ns) :: Ls.drop (i' + 1) := by rw [← hLn]; exact List.drop_eq_getElem_cons hlt
        rw [e1, List.sum_append, e2, List.map_cons, List.sum_cons]
        show _ + ns.length ≤ _ + (ns.length + _)
        omega
      rw [List.length_take] at ln
      simp only [List.length_nil] at ln2
      refine ⟨.int ns[j'], hset3, _, .inl ns[j'], rfl, upd_same, by rw [sizeLine_eq]; omega, ?_⟩
      show _ = _
      rw [upd_twice, take_get hn?, List.foldl_append]
      rfl
    · have e : j' = ns.length := by omega
      subst e
      refine Or.inl ⟨⟨_, sq hLl, by rw [List.length_map]; exact Nat.le_refl _⟩, ?_⟩
      show _ = _
      rw [List.take_length, take_get hp?, List.foldl_append]
      rfl
  · have e : i' = Ls.length := by omega
    subst e
    refine Or.inl ⟨⟨_, sq hD0, by rw [hlen]; exact Nat.le_refl _⟩, ?_⟩
    rw [List.take_length]
    exact q D hD
/-- {k: v for k, v in self.f.items() if k in (slot t)} -/
theorem dc_items {rows there : List (Key × V)} {T4 : Addr} {t p r : Nat} (hσ : σ[0]? = some (some (.ref a))) (ht : σ[t]? = some (some (.ref T4))) (hT4 : H T4 = some (.dK there)) (hTR : T4 ≠ R) (ha : H a = some (.ins C dx fs)) (cl : Cls K C) (na : NoAttr K C f) (hf : fs.lookup f = some (.ref R)) (hR : H R = some (.dK rows)) (haR : a ≠ R)
    (hl : rows.length ≤ 100000) (hp : p < σ.length ∧ r < σ.length ∧ p ≠ r ∧ t ≠ p ∧ t ≠ r)
    (q : ∀ D H', H D = none → (∀ b o, H b = some o → H' b = some o) → H' D = some (.dK (keepR there rows)) → Q (.ref D) H') :
    tLockE (tDc (iItems (tFld K (tVar 0) f)) (gTup K 2 (gCons (gName p) (gCons (gName r) gNil))) (tB (tDIn (tVar p) (tVar t))) (tVar p) (tVar r) [p, r]) σ H Q := by
  refine ⟨R, .dK rows, hR, trivial, fun od => ?_⟩
  have ha2 : upd H R (.frz od (.dK rows)) a = some (.ins C dx fs) := by rw [upd_ne haR]; exact ha
  refine ⟨.ref a, hσ, a, C, dx, fs, .ref R, rfl, ha2, cl, na, hf, R, od, rows, rfl, upd_same, fun D hD => ?_⟩
  have hDR : D ≠ R := fun z => by rw [z, upd_same] at hD; cases hD
  have hD0 : H D = none := by rwa [upd_ne hDR] at hD
  let H1 := upd H R (.frz od (.dK rows))
  refine ⟨fun i m H' => m = rows.length - i ∧ i ≤ rows.length ∧ (∀ b o, H1 b = some o → H' b = some o) ∧ H' D = some (.dK (((rows.take i).filter fun kv => (valV there kv.1).isSome).foldl (fun acc kv => putK acc kv.1 kv.2) [])), ⟨_, rfl, Nat.zero_le _, fun b o e => by rw [upd_ne (fun z => by rw [z] at e; rw [show H1 D = none from hD] at e; cases e)]; exact e, upd_same⟩, ?_⟩
  rintro i m H' ⟨rfl, hle, hk, hD'⟩
  have hRl : H' R = some (.frz od (.dK rows)) := hk _ _ upd_same
  by_cases hlt : i < rows.length
  · refine Or.inr ⟨⟨hRl, hlt⟩, fun H'' => (∀ b o, H1 b = some o → H'' b = some o) ∧ H'' D = some (.dK (((rows.take (i + 1)).filter fun kv => (valV there kv.1).isSome).foldl (fun acc kv => putK acc kv.1 kv.2) [])), fun H'' ⟨e1, e2⟩ => ⟨_, by omega, rfl, hlt, e1, e2⟩, ?_⟩
    rintro x H2 ⟨T0, k, v, hkv, rfl, hT0, rfl⟩
    have hT0D : T0 ≠ D := fun z => by rw [z, hD'] at hT0; cases hT0
    have k2 : ∀ b o, H1 b = some o → upd H' T0 (.tup [kV k, v]) b = some o := fun b o e => by
      have := hk b o e
      rw [upd_ne (fun z => by rw [z, hT0] at this; cases this)]
      exact this
    have d2 : upd H' T0 (.tup [kV k, v]) D = some (.dK (((rows.take i).filter fun kv => (valV there kv.1).isSome).foldl (fun acc kv => putK acc kv.1 kv.2) [])) := by rw [upd_ne (Ne.symm hT0D)]; exact hD'
    generalize hH2 : upd H' T0 (.tup [kV k, v]) = H2 at k2 d2
    have t2 : H2 T0 = some (.tup [kV k, v]) := by rw [← hH2, upd_same]
    have lw : (wipe σ [p, r]).length = σ.length := L2.wipe_length _ _
    refine ⟨T0, [kV k, v], rfl, Or.inl (Or.inl t2), rfl, kV k, [v], rfl, v, [], rfl, rfl, ?_⟩
    generalize hσ3 : ((wipe σ [p, r]).set p (some (kV k))).set r (some v) = σ3
    have s1 : σ3[p]? = some (some (kV k)) := by
      rw [← hσ3, List.getElem?_set_ne (Ne.symm hp.2.2.1)]
      exact List.getElem?_set_self (by rw [lw]; exact hp.1)
    have s2 : σ3[r]? = some (some v) := by
      rw [← hσ3]
      exact List.getElem?_set_self (by rw [List.length_set, lw]; exact hp.2.1)
    have s3 : σ3[t]? = some (some (.ref T4)) := by
      rw [← hσ3, List.getElem?_set_ne (Ne.symm hp.2.2.2.2), List.getElem?_set_ne (Ne.symm hp.2.2.2.1), wipe_get, if_neg (by simp [hp.2.2.2.1, hp.2.2.2.2])]
      exact ht
    have h4 : H2 T4 = some (.dK there) := k2 _ _ (by show upd H R _ T4 = _; rw [upd_ne hTR]; exact hT4)
    refine ⟨by rw [← hσ3, wipe_set (by simp), wipe_set (by simp), wipe_wipe], kV k, s1, .ref T4, s3, T4, valV there k, rfl, DGet.k h4, (valV there k).isSome, rfl, ?_⟩
    have et : rows.take (i + 1) = rows.take i ++ [(k, v)] := take_get hkv
    refine ifB (fun hin => ?_) fun hin => ?_
    · refine ⟨kV k, s1, v, s2, _, k, rfl, d2, ?_, fun b o e => ?_, ?_⟩
      · have h1 := keep_len ((rows.take i).filter fun kv => (valV there kv.1).isSome) []
        have h2 := List.length_filter_le (fun kv : Key × V => (valV there kv.1).isSome) (rows.take i)
        rw [List.length_take] at h2
        rw [sizeLine_eq]
        simp only [List.length_nil] at h1
        omega
      · rw [upd_ne (fun z => by rw [z] at e; rw [show H1 D = none from hD] at e; cases e)]
        exact k2 b o e
      · rw [upd_same, et, List.filter_append, List.foldl_append]
        simp [hin]
    · refine ⟨k2, ?_⟩
      rw [d2, et, List.filter_append, List.foldl_append]
      simp [hin]
  · have e : i = rows.length := by omega
    subst e
    refine Or.inl ⟨⟨hRl, Nat.le_refl _⟩, hRl, q D _ hD0 (fun b o e => ?_) ?_⟩
    · by_cases hb : b = R
      · subst hb
        rw [upd_same, ← hR, e]
      · rw [upd_ne hb]
        exact hk b o (by show upd H R _ b = _; rw [upd_ne hb]; exact e)
    · rw [upd_ne hDR, hD', List.take_length]
      rfl
end
end AL

set_option Elab.async false
set_option linter.all false
set_option maxRecDepth 100000
set_option maxHeartbeats 4000000
/-! AL28: further small rules: tuples that hold objects, in, isinstance by kinds, list(x), {}, a keyword's call, what never runs. -/
namespace AL
open PySem PySem.Spec PyProof.Rows L2
/-! ### what never runs -/
def eNever : TE := fun _ _ _ => False
def sNever : TS := fun _ _ _ => False
theorem pe_never {X : Cx} {e : Expr} : PE X e eNever := ⟨fun _ _ _ _ _ _ h => h.elim⟩
theorem ps_never {X : Cx} {s : Stmt} : PS X s sNever := ⟨fun _ _ _ _ _ _ h => h.elim⟩
theorem pss_never {X : Cx} {ss : List Stmt} (h : PSs X ss sNever) : PSs X ss sNever := h
section
variable {K : PySem.W.Frag} {b : Cf} {sl : Sl} {st : Sto} {te ta tb : TE} {t : TA} {x y z : AV} {e : DE} {c : Cf} {C : Addr} {fs : List (Str × AV)} {n : Nat} {Φ : AV → Sto → Prop}
theorem rvs_lf : ∀ {vs : List V} {ls : List Lf}, Rvs K c vs (ls.map Lf.av) → Paired (RvL K c) vs ls
  | _, [], .nil => .nil
  | _, l :: ls, .cons r t => .cons (by cases l <;> exact r) (rvs_lf t)
/-- a tuple that holds objects too -/
theorem wx_tupP (h : Wa K b t sl st fun xs st1 => ∃ ls : List Lf, xs = ls.map Lf.av ∧ ls.length ≤ 100000 ∧ Φ (.p ls) st1) : Wx K b (tTup t) sl st Φ := fun c σ ec tb s S Q q => h c σ ec tb s S _ fun vs c1 xs t1 s1 r1 ⟨ls, e2, hl, k⟩ => by
  subst e2
  have hv : vs.length = ls.length := by rw [show vs.length = (ls.map Lf.av).length from r1.length, List.length_map]
  refine ⟨Nat.le_trans (by rw [hv]; exact hl) (by decide), fun p hp => ?_⟩
  obtain ⟨t2, s2, n2⟩ := tr_new (o := .tup vs) s1 hp
  exact q (.ref p) _ (.p ls) (t1.trans t2) s2 ⟨p, vs, rfl, n2, upd_same, paired_imp (fun _ _ r => t2.rvL r) (rvs_lf r1)⟩ k
/-- repr of a named list of data -/
theorem o_reprO {ds : List PyData} (hn : st[n]? = some (.lst (ds.map AV.d))) (h1 : (PyData.list ds).showable = true) (h2 : (PyData.list ds).depth ≤ 60) (h3 : (PyData.list ds).shown.length ≤ sizeLine) : Oc K (rREPR K) [.o n] st (dS (PyData.list ds).shown) := fun c vs e s r Q q => by
  obtain ⟨v, rfl, a, ia, rfl⟩ := rvs1 r
  obtain ⟨ws, h4, h5⟩ := s.ob n a _ ia (by rw [e]; exact hn)
  exact ⟨.ref a, .list ds, rfl, .lst (Or.inl (Or.inl h4)) (DtA.dp ds _ (rvs_dta h5)), h1, h2, h3, q _ c (Tr.refl c) s e (.str _)⟩
/-! ### in -/
theorem o_inKt {d : Addr} {vs : List V} {u : Str} (h : ∀ H, SqT K H d vs) (fl : vs.all flatV = true) : Op K (rIn K false) (dS u) (.raw (.ref d)) st (dB (inV (.str u) vs)) := fun c v w e s r1 r2 Q q => by
  cases rv_s r1
  cases r2
  exact ⟨d, vs, rfl, Or.inr (h _), rfl, fl, q _ c (Tr.refl c) s e (.bl _)⟩
theorem flat_strs : ∀ ys : List Str, (ys.map V.str).all flatV = true
  | [] => rfl
  | y :: ys => by rw [List.map_cons, List.all_cons, flat_strs ys]; rfl
theorem o_inTt {ys : List Str} {u : Str} : Op K (rIn K false) (dS u) (dT (ys.map PyData.str)) st (dB (inV (.str u) (ys.map V.str))) := fun c v w e s r1 r2 Q q => by
  cases rv_s r1
  obtain ⟨a, us, rfl, h1, d1⟩ := rv_t r2
  have := d1.strs
  subst this
  exact ⟨a, _, rfl, Or.inr h1, rfl, flat_strs ys, q _ c (Tr.refl c) s e (.bl _)⟩
/-! ### list(x), {} -/
def rLIST (K : PySem.W.Frag) : List V → Hp → VK → Prop := fun xs H Q => ∃ p ys, xs = [.ref p] ∧ (SqL K H p ys ∨ SqT K H p ys) ∧ ∀ l, H l = none → Q (.ref l) (upd H l (.lst ys))
theorem o_listO {ds : List PyData} (hn : st[n]? = some (.lst (ds.map AV.d))) : Oc K (rLIST K) [.o n] st (dL ds) := fun c vs e s r Q q => by
  obtain ⟨v, rfl, a, ia, rfl⟩ := rvs1 r
  obtain ⟨ws, h4, h5⟩ := s.ob n a _ ia (by rw [e]; exact hn)
  refine ⟨a, ws, rfl, Or.inl (Or.inl (Or.inl h4)), fun l hl => ?_⟩
  obtain ⟨t2, s2, n2⟩ := tr_new (o := .lst ws) s hl
  exact q (.ref l) _ t2 s2 (show c.st = st from e) (Dt.lst n2 upd_same (DtA.mono t2.keep _ _ (rvs_dta h5)))
theorem wx_dnew (k : Φ (.o st.length) (st ++ [.dk []])) : Wx K b tDNewK sl st Φ := fun c σ ec tb s S Q q p hp => by
  have t1 := tr_add (ho := .dK []) (o := .dk []) s hp
  have s1 : SR K (c.add p (.dK []) (.dk [])) := sr_add s hp ⟨[], upd_same, .nil⟩
  exact q (.ref p) (c.add p (.dK []) (.dk [])) (.o st.length) t1 s1 ⟨p, by rw [← ec]; exact add_idx s, rfl⟩ (by show Φ _ (c.st ++ _); rw [ec]; exact k)
/-- a, b, c = a list -/
theorem eg_lst {n : Nat} {u : TGs} {ds : List PyData} {sl' : Sl} {js : List Nat} (h : Egs K u sl (ds.map AV.d) sl' js) (hn : ds.length = n) : Eg K (gLst K n u) sl (dL ds) sl' js := fun c σ v s S r Q q => by
  obtain ⟨a, us, rfl, h1, d1⟩ := rv_l r
  exact ⟨a, us, rfl, Or.inl (Or.inl h1), by rw [d1.len]; exact hn, h c σ us s S (dta_rvs d1) Q q⟩
/-! ### isinstance(x, (list, tuple)) -/
theorem ev_isTT {d : PyData} {us : List String} {r : Bool} (h : Ev K te sl st (.d d)) (ht : Ea K t sl st (us.map fun u => .raw (.ty u))) (hl : us.length ≤ 1000) (hk : PySem.W.kitAny K (.type (tyD d)) (us.map Value.type) = some r) :
    Ev K (tCB (rIsiT K) (tCons te (tCons (tTup t) tNil))) sl st (dB r) := fun c σ e s S Q q =>
  h c σ e s S _ fun v c1 t1 s1 e1 r1 => ht c1 σ e1 s1 (t1.ss S) _ fun vs c2 t2 s2 e2 r2 => by
  have g : ∀ {vs : List V} {us : List String}, Rvs K c2 vs (us.map fun u => .raw (.ty u)) → vs = us.map V.ty := by
    intro vs us
    induction us generalizing vs with
    | nil => intro r; cases r; rfl
    | cons C Cs ih =>
      intro r
      cases r with
      | cons r t =>
        cases r
        rw [ih t]
        rfl
  have := g r2
  subst this
  refine ⟨Nat.le_trans (by rw [List.length_map]; exact hl) (by decide), fun p hp => ?_⟩
  obtain ⟨t3, s3, n3⟩ := tr_new (o := .tup (us.map V.ty)) s2 hp
  have T3 := t2.trans t3
  have cp : ∀ us : List String, Paired ClsV (us.map V.ty) (us.map Value.type) := fun us => by
    induction us with
    | nil => exact .nil
    | cons u us ih => exact .cons (.ty u) ih
  exact ⟨v, p, us.map V.ty, .type (tyD d), us.map Value.type, r, rfl, upd_same, cp us, ty_rv (T3.rv (x := .d d) r1), hk, q _ _ (t1.trans T3) s3 e2 (.bl _)⟩
end
section
variable {X : Cx} {e e2 : Expr} {te te2 : TE} {ta : TA} {p pos : Pos}
theorem x_inT {K : PySem.W.Frag} (ha : PE X e te) (hb : PE X e2 te2) (hm : behindInMarks .In e2 = false := by with_unfolding_all rfl) (hK : X.K = K := by rfl) : PE X (.Compare e [.In] [e2] pos) (tOp (rIn K false) te te2) := by
  subst hK
  exact pe_cmpR op_in_seq ha hb hm
theorem t_inT {K : PySem.W.Frag} (ha : PE X e te) (hb : PE X e2 te2) (hm : behindInMarks .In e2 = false := by with_unfolding_all rfl) (hK : X.K = K := by rfl) : PT X (.Compare e [.In] [e2] pos) (tTest (tOp (rIn K false) te te2)) := by
  subst hK
  exact pt_cmpR op_in_seq ha hb hm
theorem x_list {K : PySem.W.Frag} (B : BT X.mg) (ha : PE X e te) (hg : Gl X "list" := by rfl) (hs : starEach [e] X.env = (false, eval e X.env) :: starEach [] X.env := by rfl) (hK : X.K = K := by rfl) : PE X (.Call (.Name "list" p) [e] [] pos) (tCB (rLIST K) (tCons te tNil)) := by
  subst hK
  exact pe_callTy call_list_of hg B.list PyProof.Rows.boot_list (pa_cons ha pa_nil hs) (by decide) (by decide) hs
theorem x_isTT {K : PySem.W.Frag} (B : BT X.mg) (ha : PE X e te) (ha2 : PE X e2 te2) (hg : Gl X "isinstance" := by rfl)
    (hs1 : starEach [e, e2] X.env = (false, eval e X.env) :: starEach [e2] X.env := by rfl) (hs2 : starEach [e2] X.env = (false, eval e2 X.env) :: starEach [] X.env := by rfl) (hpl : (backTo pos (starEach [e2] X.env)).any (·.1) = false := by rfl) (hK : X.K = K := by rfl) :
    PE X (.Call (.Name "isinstance" p) [e, e2] [] pos) (tCB (rIsiT K) (tCons te (tCons te2 tNil))) := by
  subst hK
  exact pe_callB call_isiT hg B.isinstance PyProof.Rows.boot_isinstance (pa_cons ha (pa_cons ha2 pa_nil hs2) hs1) (by decide) (by decide) hs1 hpl
end
/-! ### f(x=v) -/
structure DefK1 (P : Program) (w : World) (K : PySem.W.Frag) (mg : Str → Option Value) (base : Heap) (k : Nat) (x nm : Str) (sp : Sp) : Prop where
  ex : ∃ (f : Addr) (fd : FuncData), FnOk P w K mg base (L2.CX P w) k f fd [nm] sp ∧ mg x = some (.ref f) ∧ PySem.W.keepIn K (.ref f) = true ∧ ∀ (s : Shared) (v : Value), BindsTo s fd ⟨[], [(nm, v)]⟩ [(nm, v)]
theorem pe_fk1 {X : Cx} {k j : Nat} {x nm : Str} {sp : Sp} {W : WX} {e : Expr} {te : TE} {p pos kpos : Pos} (c : DefK1 X.prog X.w X.K X.mg X.base k x nm sp) (hr : Room j X.A) (tk : Takes X W) (ha : PE X e te) (hk : k ≤ j := by decide) (hg : Gl X x := by rfl)
    (hdb : (x == ("__debug__" : Str)) = false := by decide) (hall : (backToKw pos (keywordEach [⟨some nm, e, kpos⟩] X.env)).all (·.1.isSome) = true := by rfl) (hks : (backToKw pos (keywordEach [⟨some nm, e, kpos⟩] X.env)).filterMap (·.1) = [nm] := by rfl)
    (hpl : ((backTo pos (starEach [] X.env)).any (·.1) || (backToKw pos (keywordEach [⟨some nm, e, kpos⟩] X.env)).any (·.1.isNone)) = false := by rfl) :
    PE X (.Call (.Name x p) [] [⟨some nm, e, kpos⟩] pos) (tCalW sp [] W (tCons te tNil)) := by
  obtain ⟨f, fd, F, hm, hkp, hb⟩ := c.ex
  refine ⟨fun pins s σ H Q I h => ?_⟩
  refine wpAny_Call_Name_kw (ld_glob I hg hm ?_ hdb)
  refine PySem.W.callWith_KW0 (h₀ := X.base) I.ok.mod.kin hkp hall (thn ((pk_cons ha pk_nil).run pos pins s σ H _ I h) fun ws s2 ⟨zs, H2, I2, rz, q2⟩ => ⟨I2.kIn, ?_⟩) hpl
  rw [hks]
  have hl1 : zs.length = 1 := by
    have := F.len _ _ _ _ q2
    rw [List.append_nil] at this
    exact this
  obtain ⟨z, rfl⟩ : ∃ z, zs = [z] := by
    match zs, hl1 with
    | [z], _ => exact ⟨z, rfl⟩
  cases rz with
  | @cons _ u _ us r1 r2 =>
    cases r2
    refine wpAny_call (codeAny_mono (F.run X.A X.stack s2 H2 ⟨[], [(nm, u)]⟩ [u] [z] Q (wE W σ) (hr.mono hk) I2.env0 (hb s2 u) (.cons r1 .nil) q2) fun r s' hq => ?_)
    cases r with
    | error e => exact passAt tk σ pins H2 s2 e s' I2 hq
    | ok fl =>
      cases fl with
      | ret u => exact I2.after hq
      | next => exact False.elim hq
      | brk => exact False.elim hq
      | cont => exact False.elim hq
end AL

set_option Elab.async false
set_option linter.all false
set_option maxRecDepth 100000
set_option maxHeartbeats 4000000
/-! AL29: a book's defs all_lists, forget: their promises on the heap itself; what a call of forget does to the named objects. -/
namespace AL
open PySem PySem.Spec PyProof.Rows L2
/-- where a book's parts stand -/
structure BkH (K : PySem.W.Frag) (C : Addr) (H : Hp) (a : Addr) (fs : List (Str × V)) (T A : Addr) (ws : List (List Key × V)) : Prop where
  ins : ∃ dx, H a = some (.ins C dx fs)
  cl : Cls K C
  na1 : NoAttr K C "trees"
  na2 : NoAttr K C "away_now"
  f1 : fs.lookup ("trees" : Str) = some (.ref T)
  f2 : fs.lookup ("away_now" : Str) = some (.ref A)
  hT : H T = some (.dT ws)
  hA : H A = some (.dK [])
  hv : ∀ p ∈ ws, p.2 = .non ∨ isRef p.2 = true
  hl : ws.length ≤ 1000
def spAll (K : PySem.W.Frag) (C : Addr) : Sp := fun vs H Q _ => ∃ a fs T A ws, vs = [.ref a] ∧ BkH K C H a fs T A ws ∧
  ∀ H' D3, (∀ b o, H b = some o → H' b = some o) → H D3 = none → H' D3 = some (.lst ((ws.map (·.2)).filter isRef)) → Q (.ref D3) H'
section
variable {K : PySem.W.Frag} {C : Addr} {vs : List V} {H : Hp} {Q : VK} {E : XK}
theorem run_all {x f1 f2 f3 f4 f5 : Str} {g : TG} {tt : TT} {te : TE} {own : List Nat} (h : spAll K C vs H Q E) :
    (tSeq (tAsg (tLockE (tLc (iValsT (tFld K (tVar 0) "trees")) (gName 2) (tTest (tOp rNotN (tVar 2) (tC .non))) (tVar 2) [2])) (gName 1)) (tRet (tOp (rADD K) (tVar 1) (tLockE (tLc (iVals (tFld K (tVar 0) "away_now")) g tt te own))))) { nx := fun _ H' => Q .non H', rt := Q } (L2.start [x, f1, f2, f3, f4] vs) H := by
  obtain ⟨a, fs, T, A, ws, rfl, B, q⟩ := h
  obtain ⟨dx, ha⟩ := B.ins
  have haT : a ≠ T := fun z => by rw [z, B.hT] at ha; cases ha
  have haA : a ≠ A := fun z => by rw [z, B.hA] at ha; cases ha
  refine lc_valsT rfl ha B.cl B.na1 B.f1 B.hT haT B.hv B.hl ⟨by decide, Nat.le_of_ble_eq_true rfl⟩ fun D1 hD1 => ?_
  refine ⟨.ref D1, rfl, ?_⟩
  have e1 : ∀ b o, H b = some o → upd H D1 (.lst ((ws.map (·.2)).filter isRef)) b = some o := fun b o e => by rw [upd_ne (fun z => by rw [z, hD1] at e; cases e)]; exact e
  refine lc_vals0 rfl (e1 _ _ ha) B.cl B.na2 B.f2 (e1 _ _ B.hA) haA fun D2 hD2 => ?_
  have e2 : ∀ b o, upd H D1 (.lst ((ws.map (·.2)).filter isRef)) b = some o → upd (upd H D1 (.lst ((ws.map (·.2)).filter isRef))) D2 (.lst []) b = some o := fun b o e => by rw [upd_ne (fun z => by rw [z, hD2] at e; cases e)]; exact e
  refine Or.inr (Or.inr (Or.inr ⟨D1, D2, _, [], rfl, rfl, e2 _ _ upd_same, upd_same, ?_, fun D3 hD3 => ?_⟩))
  · have := List.length_filter_le isRef (ws.map (·.2))
    rw [List.length_map] at this
    have := B.hl
    rw [sizeLine_eq]
    simp only [List.length_nil]
    omega
  · refine q _ D3 (fun b o e => ?_) ?_ (by rw [upd_same, List.append_nil])
    · have e4 := e2 _ _ (e1 _ _ e)
      rw [upd_ne (fun z => by rw [z, hD3] at e4; cases e4)]
      exact e4
    · cases hh : H D3 with
      | none => rfl
      | some o => rw [e2 _ _ (e1 _ _ hh)] at hD3; cases hD3
/-! ### forget -/
def spForget (K : PySem.W.Frag) (C : Addr) : Sp := fun vs H Q _ => ∃ a dx fs T A R ws Ls rows, vs = [.ref a] ∧ H a = some (.ins C dx fs) ∧ BkH K C H a fs T A ws ∧ NoAttr K C "rows" ∧ fs.lookup ("all_lists" : Str) = none ∧ fs.lookup ("rows" : Str) = some (.ref R) ∧ H R = some (.dK rows) ∧ rows.length ≤ 1000 ∧ fs.length ≤ 900 ∧
  (ws.map (·.2)).filter isRef = Ls.map (fun p : Addr × List Int => V.ref p.1) ∧ (∀ p ∈ Ls, H p.1 = some (.lst (p.2.map V.int))) ∧ (Ls.map fun p => p.2.length).sum ≤ 100000 ∧
  ∀ H' D5, (∀ b o, b ≠ a → H b = some o → H' b = some o) → H D5 = none → H' D5 = some (.dK (keepR (keysL Ls) rows)) → H' a = some (.ins C dx (putF "rows" (.ref D5) fs)) → Q .non H'
theorem run_forget {x f1 f2 f3 f4 f5 : Str} {W : WX} (h : spForget K C vs H Q E) :
    (tSeq (tAsg (tDc2 (iList K (tMetW C "all_lists" (spAll K C) [] W (tVar 0) tNil)) (gName 2) tYes (iList K (tVar 2)) (gName 3) tYes (tVar 3) (tC (.bl true)) [2, 3] [3]) (gName 1))
      (sFld K (tVar 0) (tLockE (tDc (iItems (tFld K (tVar 0) "rows")) (gTup K 2 (gCons (gName 3) (gCons (gName 4) gNil))) (tB (tDIn (tVar 3) (tVar 1))) (tVar 3) (tVar 4) [3, 4])) "rows")) { nx := fun _ H' => Q .non H', rt := Q } (L2.start [x, f1, f2, f3, f4] vs) H := by
  obtain ⟨a, dx, fs, T, A, R, ws, Ls, rows, rfl, ha, B, na, hm, hf, hR, hrl, hfl, hLs, hL, hz, q⟩ := h
  have haR : a ≠ R := fun z => by rw [z, hR] at ha; cases ha
  refine ⟨.ref a, rfl, a, dx, fs, rfl, ha, hm, ?_⟩
  refine ⟨a, fs, T, A, ws, rfl, B, fun H2 D3 e2 hD3 hD3' => ?_⟩
  refine ⟨D3, rfl, ⟨_, Or.inl (Or.inl hD3')⟩, ?_⟩
  rw [hLs] at hD3'
  refine dc2_lists (σ := [some (.ref a), none, none, none, none]) (Q := fun v H' => gName 1 v _ H' _) hD3' (fun p hp => e2 _ _ (hL p hp)) hz ⟨Nat.le_of_ble_eq_true rfl, Nat.le_of_ble_eq_true rfl, by decide⟩ fun D4 hD4 => ?_
  have e4 : ∀ b o, H2 b = some o → upd H2 D4 (.dK (keysL Ls)) b = some o := fun b o e => by rw [upd_ne (fun z => by rw [z, hD4] at e; cases e)]; exact e
  have h4R : D4 ≠ R := fun z => by rw [z, e2 _ _ hR] at hD4; cases hD4
  refine (id ?_ : sFld K (tVar 0) (tLockE (tDc (iItems (tFld K (tVar 0) "rows")) (gTup K 2 (gCons (gName 3) (gCons (gName 4) gNil))) (tB (tDIn (tVar 3) (tVar 1))) (tVar 3) (tVar 4) [3, 4])) "rows" { nx := fun _ H' => Q .non H', rt := Q } [some (.ref a), some (.ref D4), none, none, none] (upd H2 D4 (.dK (keysL Ls))))
  refine dc_items (T4 := D4) (t := 1) (p := 3) (r := 4) (σ := [some (.ref a), some (.ref D4), none, none, none]) rfl rfl upd_same h4R (e4 _ _ (e2 _ _ ha)) B.cl na hf (e4 _ _ (e2 _ _ hR)) haR (by omega) ⟨Nat.le_of_ble_eq_true rfl, Nat.le_of_ble_eq_true rfl, by decide, by decide, by decide⟩ fun D5 H5 hD5 e5 h5 => ?_
  have ha5 := e5 _ _ (e4 _ _ (e2 _ _ ha))
  refine ⟨.ref a, rfl, a, C, dx, fs, rfl, ha5, B.cl, na, by omega, ?_⟩
  have n5 : ∀ {b o}, H b = some o → D5 ≠ b := fun {b o} e z => by rw [z, e4 _ _ (e2 _ _ e)] at hD5; cases hD5
  refine q _ D5 (fun b o hb e => ?_) ?_ ?_ upd_same
  · rw [upd_ne hb]
    exact e5 _ _ (e4 _ _ (e2 _ _ e))
  · cases hh : H D5 with
    | none => rfl
    | some o => exact absurd rfl (n5 hh)
  · rw [upd_ne (n5 ha)]
    exact h5
end
end AL

set_option Elab.async false
set_option linter.all false
set_option maxRecDepth 100000
set_option maxHeartbeats 4000000
/-! AL30: a call of forget among named objects; a book's own ==. -/
namespace AL
open PySem PySem.Spec PyProof.Rows L2
def keysN (nss : List (List Int)) : List (Key × V) := nss.foldl (fun acc ns => ns.foldl addI acc) []
def keepA (there : List (Key × V)) (rows : List (Key × AV)) : List (Key × AV) := (rows.filter fun kv => (valV there kv.1).isSome).foldl (fun acc kv => putA acc kv.1 kv.2) []
theorem keysL_N (Ls : List (Addr × List Int)) : keysL Ls = keysN (Ls.map (·.2)) := by
  unfold keysL keysN
  rw [List.foldl_map]
  rfl
def isO : AV → Bool
  | .o _ => true
  | _ => false
section
variable {K : PySem.W.Frag} {b c : Cf} {sl : Sl} {st : Sto} {ta : TE} {x y z : AV} {C : Addr} {fs : List (Str × AV)} {n T A R : Nat} {Φ : AV → Sto → Prop}
theorem rk_keep {th : List (Key × V)} {ws : List (Key × V)} {kvs : List (Key × AV)} (r : Rk K c ws kvs) : Rk K c (keepR th ws) (keepA th kvs) := by
  have g : ∀ {ws : List (Key × V)} {kvs : List (Key × AV)}, Rk K c ws kvs → Rk K c (ws.filter fun kv => (valV th kv.1).isSome) (kvs.filter fun kv => (valV th kv.1).isSome) := by
    intro ws kvs r
    induction r with
    | nil => exact .nil
    | @cons p q ps qs h _ ih =>
      obtain ⟨h1, h2⟩ := h
      rw [List.filter_cons, List.filter_cons, h1]
      split
      · exact .cons ⟨h1, h2⟩ ih
      · exact ih
  have f : ∀ {ws : List (Key × V)} {kvs : List (Key × AV)} {a1 : List (Key × V)} {a2 : List (Key × AV)}, Rk K c ws kvs → Rk K c a1 a2 → Rk K c (ws.foldl (fun acc kv => putK acc kv.1 kv.2) a1) (kvs.foldl (fun acc kv => putA acc kv.1 kv.2) a2) := by
    intro ws kvs a1 a2 r
    induction r generalizing a1 a2 with
    | nil => exact fun h => h
    | @cons p q ps qs h _ ih =>
      intro ra
      obtain ⟨h1, h2⟩ := h
      rw [List.foldl_cons, List.foldl_cons, h1]
      exact ih (rk_put q.1 h2 ra)
  exact f (g r) .nil
theorem rvs_ints {vs : List V} {ns : List Int} (r : Rvs K c vs (ns.map fun i => dI i)) : vs = ns.map V.int := by
  induction ns generalizing vs with
  | nil => cases r; rfl
  | cons i ns ih =>
    cases r with
    | cons r t => rw [rv_i r, ih t]; rfl
theorem lists_of (s : SR K c) {ws : List (List Key × V)} {tr : List (List Key × AV)} (r : Rkt K c ws tr) (hv : ∀ p ∈ tr, p.2 = dN ∨ ∃ L, p.2 = .o L) : ∀ {LsI : List (Nat × List Int)}, (tr.map (·.2)).filter isO = LsI.map (fun p => AV.o p.1) →
    (∀ p ∈ ws, p.2 = .non ∨ isRef p.2 = true) ∧ ∃ Ls : List (Addr × List Int), (ws.map (·.2)).filter isRef = Ls.map (fun p => V.ref p.1) ∧ Paired (fun p q => c.al[q.1]? = some p.1 ∧ p.2 = q.2) Ls LsI := by
  unfold Rkt at r
  induction r with
  | nil =>
    intro LsI h
    cases LsI with
    | nil => exact ⟨(fun p h => by cases h), [], rfl, .nil⟩
    | cons q l => cases h
  | @cons p q ps qs h _ ih =>
    intro LsI hL
    obtain ⟨h1, h2⟩ := h
    have hv' : ∀ p ∈ qs, p.2 = dN ∨ ∃ L, p.2 = .o L := fun p hp => hv p (List.mem_cons_of_mem _ hp)
    rcases hv q (List.mem_cons_self ..) with e | ⟨L, e⟩
    · rw [e] at h2
      have hp : p.2 = .non := by
        have h3 : Dt K c.Alive c.hp p.2 .none := h2
        generalize p.2 = v at h3
        cases h3
        rfl
      rw [List.map_cons, List.filter_cons, e] at hL
      obtain ⟨g1, Ls, g2, g3⟩ := ih hv' (LsI := LsI) (by simpa [isO] using hL)
      refine ⟨fun z hz => ?_, Ls, ?_, g3⟩
      · rcases List.mem_cons.mp hz with rfl | hz
        · exact Or.inl hp
        · exact g1 z hz
      · rw [List.map_cons, List.filter_cons, hp]
        simpa [isRef] using g2
    · rw [e] at h2
      obtain ⟨a, ia, hp⟩ := h2
      rw [List.map_cons, List.filter_cons, e] at hL
      cases LsI with
      | nil => simp [isO] at hL
      | cons l0 l =>
        have hL2 : AV.o L :: (qs.map (·.2)).filter isO = AV.o l0.1 :: l.map (fun p => AV.o p.1) := by simpa [isO] using hL
        injection hL2 with e1 e2
        injection e1 with e1
        obtain ⟨g1, Ls, g2, g3⟩ := ih hv' (LsI := l) e2
        refine ⟨fun z hz => ?_, (a, l0.2) :: Ls, ?_, .cons ⟨by rw [← e1]; exact ia, rfl⟩ g3⟩
        · rcases List.mem_cons.mp hz with rfl | hz
          · exact Or.inr (by rw [hp]; rfl)
          · exact g1 z hz
        · rw [List.map_cons, List.filter_cons, hp]
          simpa [isRef] using g2
/-- self.forget() -/
theorem wx_forget {W : WX} {tr : List (List Key × AV)} {rw : List (Key × AV)} {LsI : List (Nat × List Int)} (ho : Ev K ta sl st (.o n)) (hn : st[n]? = some (.ins C fs)) (cl : Cls K C) (na1 : NoAttr K C "trees") (na2 : NoAttr K C "away_now") (na3 : NoAttr K C "rows")
    (f1 : fs.lookup ("trees" : Str) = some (.o T)) (f2 : fs.lookup ("away_now" : Str) = some (.o A)) (f3 : fs.lookup ("rows" : Str) = some (.o R)) (f0 : fs.lookup ("forget" : Str) = none) (f4 : fs.lookup ("all_lists" : Str) = none) (hT : st[T]? = some (.dt tr)) (hA : st[A]? = some (.dk [])) (hR : st[R]? = some (.dk rw))
    (hfl : fs.length ≤ 900) (htl : tr.length ≤ 1000) (hrl : rw.length ≤ 1000) (hv : ∀ p ∈ tr, p.2 = dN ∨ ∃ L, p.2 = .o L) (hLs : (tr.map (·.2)).filter isO = LsI.map (fun p => AV.o p.1)) (hL : ∀ p ∈ LsI, st[p.1]? = some (.lst (p.2.map fun i => dI i))) (hz : (LsI.map fun p => p.2.length).sum ≤ 100000)
    (k : Φ dN ((st.set n (.ins C (putFA "rows" (.o st.length) fs))) ++ [.dk (keepA (keysN (LsI.map (·.2))) rw)])) : Wx K b (tMetW C "forget" (spForget K C) [] W ta tNil) sl st Φ := fun c0 σ e tb s0 S Q q =>
  ho c0 σ e s0 S _ fun w c t1 s e1 r1 => by
  obtain ⟨a, ia, rfl⟩ := r1
  have hn' : c.st[n]? = some (.ins C fs) := by rw [e1]; exact hn
  obtain ⟨dx, ws0, hh, hf⟩ := s.ob n a _ ia hn'
  obtain ⟨vT, g1, rT⟩ := rf_get hf f1
  obtain ⟨vA, g2, rA⟩ := rf_get hf f2
  obtain ⟨vR, g3, rR⟩ := rf_get hf f3
  obtain ⟨aT, iT, rfl⟩ := rT
  obtain ⟨aA, iA, rfl⟩ := rA
  obtain ⟨aR, iR, rfl⟩ := rR
  obtain ⟨wsT, hhT, dT⟩ := s.ob T aT _ iT (by rw [e1]; exact hT)
  obtain ⟨wsA, hhA, dA⟩ := s.ob A aA _ iA (by rw [e1]; exact hA)
  obtain ⟨wsR, hhR, dR⟩ := s.ob R aR _ iR (by rw [e1]; exact hR)
  cases dA
  obtain ⟨hv2, Ls, hLs2, pL⟩ := lists_of s dT hv hLs
  have hLs3 : Ls.map (·.2) = LsI.map (·.2) := by
    clear hLs2 hLs hL hz k
    induction pL with
    | nil => rfl
    | cons h _ ih => rw [List.map_cons, List.map_cons, h.2, ih]
  have hL2 : ∀ p ∈ Ls, c.hp p.1 = some (.lst (p.2.map V.int)) := by
    clear hLs2 hLs hz k hLs3
    induction pL with
    | nil => intro p hp; cases hp
    | @cons p0 q0 _ _ h _ ih =>
      intro p hp
      rcases List.mem_cons.mp hp with rfl | hp
      · obtain ⟨vs, h4, h5⟩ := s.ob q0.1 p.1 _ h.1 (by rw [e1]; exact hL q0 (List.mem_cons_self ..))
        rw [rvs_ints h5] at h4
        rw [h.2]
        exact h4
      · exact ih (fun p hp => hL p (List.mem_cons_of_mem _ hp)) p hp
  refine ⟨a, dx, ws0, rfl, hh, rf_none hf f0, ?_⟩
  refine ⟨a, dx, ws0, aT, aA, aR, wsT, Ls, wsR, rfl, hh, ⟨⟨dx, hh⟩, cl, na1, na2, g1, g2, hhT, hhA, hv2, by rw [show wsT.length = tr.length from dT.length]; exact htl⟩, na3, rf_none hf f4, g3, hhR, by rw [show wsR.length = rw.length from dR.length]; exact hrl, by rw [show ws0.length = fs.length from hf.length]; exact hfl, hLs2, hL2, ?_, fun H' D5 eH hD5 hD5' ha' => ?_⟩
  · have : Ls.map (fun p => p.2.length) = LsI.map (fun p => p.2.length) := by
      have := congrArg (List.map List.length) hLs3
      rw [List.map_map, List.map_map] at this
      exact this
    rw [this]; exact hz
  rw [keysL_N, hLs3] at hD5'
  have hal : ∀ {i : Nat} {x : Addr}, c.al[i]? = some x → c.hp x ≠ none := fun {i x} h => s.al x (List.mem_of_getElem? h)
  have hDal : ∀ {i : Nat}, c.al[i]? ≠ some D5 := fun {i} h => hal h hD5
  have hln : n < c.al.length := (List.getElem?_eq_some_iff.mp ia).1
  have hst : c.st.length = st.length := by rw [e1]
  let ins' : AO := .ins C (putFA "rows" (.o st.length) fs)
  let c' : Cf := ⟨c.al ++ [D5], (c.st.set n ins') ++ [.dk (keepA (keysN (LsI.map (·.2))) rw)], H', c.hid⟩
  have keepHp : ∀ x, x ≠ a → c.hp x ≠ none → H' x = c.hp x := fun x hx h => by
    cases hc : c.hp x with
    | none => exact absurd hc h
    | some o => exact eH x o hx hc
  have old : ∀ {i : Nat} {x : Addr} {o : AO}, c'.al[i]? = some x → c'.st[i]? = some o → (i = n ∧ x = a ∧ o = ins') ∨ (i ≠ n ∧ c.al[i]? = some x ∧ c.st[i]? = some o) ∨ (x = D5 ∧ i = c.st.length ∧ o = .dk (keepA (keysN (LsI.map (·.2))) rw)) := fun {i x o} h1 h2 => by
    have h1 : (c.al ++ [D5])[i]? = some x := h1
    have h2 : ((c.st.set n ins') ++ [AO.dk (keepA (keysN (LsI.map (·.2))) rw)])[i]? = some o := h2
    by_cases hi : i < c.al.length
    · rw [List.getElem?_append_left hi] at h1
      rw [List.getElem?_append_left (by rw [List.length_set, ← s.len]; exact hi)] at h2
      by_cases hin : n = i
      · subst hin
        rw [List.getElem?_set_self (by rw [← s.len]; exact hi)] at h2
        rw [ia] at h1
        cases h1
        cases h2
        exact Or.inl ⟨rfl, rfl, rfl⟩
      · rw [List.getElem?_set_ne hin] at h2
        exact Or.inr (Or.inl ⟨fun z => hin z.symm, h1, h2⟩)
    · have hi2 : i = c.al.length := by
        have := (List.getElem?_eq_some_iff.mp h1).1
        rw [List.length_append, List.length_singleton] at this
        omega
      subst hi2
      rw [List.getElem?_append_right (Nat.le_refl _), Nat.sub_self] at h1
      rw [List.getElem?_append_right (by rw [List.length_set, s.len]; exact Nat.le_refl _), List.length_set, s.len, Nat.sub_self] at h2
      cases h1
      cases h2
      exact Or.inr (Or.inr ⟨rfl, s.len, rfl⟩)
  have aliveA : c.Alive a := Or.inr ⟨n, _, ia, hn', fun z => by cases z⟩
  have tr2 : Tr c c' := by
    refine ⟨⟨[D5], rfl⟩, fun x o hx hxo => ?_, fun x hx => ?_, rfl, fun x hx => ?_⟩
    · have hxa : x ≠ a := fun z => hx (z ▸ aliveA)
      refine ⟨fun hal2 => ?_, eH x o hxa hxo⟩
      rcases hal2 with h | ⟨i, o2, h1, h2, h3⟩
      · exact hx (Or.inl h)
      · rcases old h1 h2 with ⟨_, e2, _⟩ | ⟨_, e2, e3⟩ | ⟨e2, _, _⟩
        · exact hxa e2
        · exact hx (Or.inr ⟨i, o2, e2, e3, h3⟩)
        · rw [e2, hD5] at hxo; cases hxo
    · cases hc : c.hp x with
      | none => rfl
      | some o =>
        have hx : H' x = none := hx
        by_cases hxa : x = a
        · subst hxa; rw [ha'] at hx; cases hx
        · rw [eH x o hxa hc] at hx; cases hx
    · exact keepHp x (fun z => s.dj a (List.mem_of_getElem? ia) (z ▸ hx)) (s.hd x hx)
  have s' : SR K c' := by
    refine ⟨fun x hx => ?_, fun x hx => ?_, ?_, ?_, fun x hx => ?_, fun i x o h1 h2 => ?_⟩
    · have hx : x ∈ c.al ++ [D5] := hx
      rcases List.mem_append.mp hx with h | h
      · exact s.dj x h
      · rw [List.mem_singleton.mp h]
        exact fun z => s.hd D5 z hD5
    · have := keepHp x (fun z => s.dj a (List.mem_of_getElem? ia) (z ▸ hx)) (s.hd x hx)
      show H' x ≠ none
      rw [this]
      exact s.hd x hx
    · show (c.al ++ [D5]).length = ((c.st.set n ins') ++ [_]).length
      rw [List.length_append, List.length_append, List.length_set, s.len]
      rfl
    · show (c.al ++ [D5]).Nodup
      rw [List.nodup_append]
      refine ⟨s.nd, by simp, fun x hx y hy => ?_⟩
      rw [List.mem_singleton.mp hy]
      rintro rfl
      exact s.al x hx hD5
    · have hx : x ∈ c.al ++ [D5] := hx
      rcases List.mem_append.mp hx with h | h
      · by_cases hxa : x = a
        · subst hxa
          show H' x ≠ none
          rw [ha']
          exact fun z => by cases z
        · show H' x ≠ none
          rw [keepHp x hxa (s.al x h)]
          exact s.al x h
      · rw [List.mem_singleton.mp h]
        show H' D5 ≠ none
        rw [hD5']
        exact fun z => by cases z
    · rcases old h1 h2 with ⟨_, rfl, rfl⟩ | ⟨hi, e2, e3⟩ | ⟨rfl, _, rfl⟩
      · have i5 : c'.al[st.length]? = some D5 := by
          show (c.al ++ [D5])[st.length]? = some D5
          rw [← hst, ← s.len, List.getElem?_append_right (Nat.le_refl _), Nat.sub_self]
          rfl
        have rv5 : Rv K c' (.ref D5) (.o st.length) := ⟨D5, i5, rfl⟩
        exact ⟨dx, _, ha', rf_put rv5 (paired_imp (fun _ _ r => ⟨r.1, tr2.rv r.2⟩) hf)⟩
      · have hxa : x ≠ a := fun z => by
          subst z
          exact hi (nodup_idx s.nd e2 ia)
        exact (s.ob i x o e2 e3).tr tr2 (keepHp x hxa (hal e2))
      · exact ⟨_, hD5', rk_keep (paired_imp (fun _ _ r => ⟨r.1, tr2.rv r.2⟩) dR)⟩
  refine q .non c' dN (t1.trans tr2) s' .non ?_
  show Φ dN ((c.st.set n ins') ++ [_])
  rw [e1]
  exact k
end
end AL

set_option Elab.async false
set_option linter.all false
set_option maxRecDepth 100000
set_option maxHeartbeats 4000000
/-! AL31: a book's own ==: five fields of the one, of the other. -/
namespace AL
open PySem PySem.Spec PyProof.Rows L2
/-- equal, of nesting below n, by what is named -/
def AEq (st : Sto) : Nat → AV → AV → Prop
  | 0 => fun _ _ => False
  | n + 1 => fun x y => (∃ d e, x = .d d ∧ y = .d e ∧ SeqAt.shaped d = true ∧ SeqAt.shaped e = true ∧ PyData.eqv d e = true) ∨
    ∃ i j, x = .o i ∧ y = .o j ∧ ((∃ xs ys, st[i]? = some (.lst xs) ∧ st[j]? = some (.lst ys) ∧ Paired (AEq st n) xs ys) ∨
      (∃ ks ls, st[i]? = some (.dk ks) ∧ st[j]? = some (.dk ls) ∧ ks.length = ls.length ∧ ∀ p ∈ ks, ∃ u, valA ls p.1 = some u ∧ AEq st n p.2 u) ∨
      ∃ ks ls, st[i]? = some (.dt ks) ∧ st[j]? = some (.dt ls) ∧ ks.length = ls.length ∧ ∀ p ∈ ks, ∃ u, valT ls p.1 = some u ∧ AEq st n p.2 u)
section
variable {K : PySem.W.Frag} {c : Cf} {st : Sto}
theorem paired_mem {α γ : Type} {R : α → γ → Prop} {S : γ → γ → Prop} {F : α → α → Prop} (h : ∀ v w x y, R v x → R w y → S x y → F v w) : ∀ {vs ws : List α} {xs ys : List γ}, Paired R vs xs → Paired R ws ys → Paired S xs ys → Paired F vs ws
  | _, _, _, _, .nil, .nil, .nil => .nil
  | _, _, _, _, .cons a as, .cons b bs, .cons d ds => .cons (h _ _ _ _ a b d) (paired_mem h as bs ds)
theorem mem_left {α β : Type} {R : α → β → Prop} : ∀ {l : List α} {m : List β}, Paired R l m → ∀ p ∈ l, ∃ q ∈ m, R p q
  | _, _, .nil, p, h => by cases h
  | _, _, .cons r t, p, h => by
    rcases List.mem_cons.mp h with rfl | h
    · exact ⟨_, List.mem_cons_self .., r⟩
    · obtain ⟨q, hq, hr⟩ := mem_left t p h
      exact ⟨q, List.mem_cons_of_mem _ hq, hr⟩
theorem aeq_eqx (s : SR K c) (e : c.st = st) : ∀ (n : Nat) (x y : AV) (v w : V), AEq st n x y → Rv K c v x → Rv K c w y → EqX K c.hp n v w
  | 0, _, _, _, _, h, _, _ => h.elim
  | n + 1, x, y, v, w, h, r1, r2 => by
    rcases h with ⟨d, d', rfl, rfl, h1, h2, h3⟩ | ⟨i, j, rfl, rfl, h⟩
    · exact Or.inr (Or.inr (Or.inl ⟨d, d', Dt.dp d v r1, Dt.dp d' w r2, h1, h2, h3⟩))
    · obtain ⟨a, ia, rfl⟩ := r1
      obtain ⟨a', ia', rfl⟩ := r2
      rcases h with ⟨xs, ys, h1, h2, h3⟩ | ⟨ks, ls, h1, h2, h3, h4⟩ | ⟨ks, ls, h1, h2, h3, h4⟩
      · obtain ⟨vs, g1, g2⟩ := s.ob i a _ ia (by rw [e]; exact h1)
        obtain ⟨ws, g3, g4⟩ := s.ob j a' _ ia' (by rw [e]; exact h2)
        exact Or.inr (Or.inr (Or.inr (Or.inl (Or.inl ⟨a, a', vs, ws, rfl, rfl, Or.inl (Or.inl g1), Or.inl (Or.inl g3), paired_mem (fun v w x y a b d => aeq_eqx s e n x y v w d a b) g2 g4 h3⟩))))
      · obtain ⟨vs, g1, g2⟩ := s.ob i a _ ia (by rw [e]; exact h1)
        obtain ⟨ws, g3, g4⟩ := s.ob j a' _ ia' (by rw [e]; exact h2)
        refine Or.inr (Or.inr (Or.inr (Or.inl (Or.inr ⟨a, a', vs, ws, rfl, rfl, g1, g3, by rw [show vs.length = ks.length from g2.length, show ws.length = ls.length from g4.length]; exact h3, fun p hp => ?_⟩))))
        obtain ⟨q, hq, h5, h6⟩ := mem_left g2 p hp
        obtain ⟨u, hu, he⟩ := h4 q hq
        have := rk_val p.1 g4
        rw [h5, hu] at this
        obtain ⟨u', hu', ru'⟩ := this
        exact ⟨u', by rw [h5]; exact hu', aeq_eqx s e n _ _ _ _ he h6 ru'⟩
      · obtain ⟨vs, g1, g2⟩ := s.ob i a _ ia (by rw [e]; exact h1)
        obtain ⟨ws, g3, g4⟩ := s.ob j a' _ ia' (by rw [e]; exact h2)
        refine Or.inr (Or.inr (Or.inr (Or.inr ⟨a, a', vs, ws, rfl, rfl, g1, g3, by rw [show vs.length = ks.length from g2.length, show ws.length = ls.length from g4.length]; exact h3, fun p hp => ?_⟩)))
        obtain ⟨q, hq, h5, h6⟩ := mem_left g2 p hp
        obtain ⟨u, hu, he⟩ := h4 q hq
        have := rkt_val p.1 g4
        rw [h5, hu] at this
        obtain ⟨u', hu', ru'⟩ := this
        exact ⟨u', by rw [h5]; exact hu', aeq_eqx s e n _ _ _ _ he h6 ru'⟩
end
/-! ### the own == -/
structure InsK (K : PySem.W.Frag) (C : Addr) : Prop where
  cl : Cls K C
  cc : PySem.W.findIn K (.ref C) "__class__" = some (some (.builtin "object.__class__"))
  cg : PySem.W.specialIn K (.builtin "object.__class__") "__get__" = some (some (.builtin "getset_descriptor.__get__"))
  ct : PySem.W.takesIn K (.builtin "object.__class__") = some true
  cm : PySem.W.mroIn K C (.type "object") = some true
  kit : PySem.W.kitOne K (.ref C) (.ref C) = some true
def FIVE : List Str := ["trees", "away_now", "many_away", "rows", "next"]
def RBk (K : PySem.W.Frag) (C : Addr) (a b : Addr) (H : Hp) : Prop := ∃ dx dy fs gs vs ws, H a = some (.ins C dx fs) ∧ H b = some (.ins C dy gs) ∧ InsK K C ∧ (∀ f ∈ FIVE, NoAttr K C f) ∧
  FIVE.map (fun f => fs.lookup f) = vs.map some ∧ FIVE.map (fun f => gs.lookup f) = ws.map some ∧ ∀ H', Ext H H' → Paired (EqX K H' 20) vs ws
section
variable {K : PySem.W.Frag} {C : Addr} {vs : List V} {H : Hp} {Q : VK} {E : XK}
def tFive (K : PySem.W.Frag) (te : TE) : TA := tCons (tFld K te "trees") (tCons (tFld K te "away_now") (tCons (tFld K te "many_away") (tCons (tFld K te "rows") (tCons (tFld K te "next") tNil))))
theorem five_run {σ : L2.St} {i : Nat} {a dx : Addr} {fs : List (Str × V)} {us : List V} {H : Hp} {Q : List V → Hp → Prop} (hσ : σ[i]? = some (some (.ref a))) (ha : H a = some (.ins C dx fs)) (cl : Cls K C) (na : ∀ f ∈ FIVE, NoAttr K C f) (hf : FIVE.map (fun f => fs.lookup f) = us.map some) (q : Q us H) : tFive K (tVar i) σ H Q := by
  have hl : us.length = 5 := by have := congrArg List.length hf; rw [List.length_map, List.length_map] at this; exact this.symm
  match us, hl, hf with
  | [u1, u2, u3, u4, u5], _, hf =>
    injection hf with e1 hf
    injection hf with e2 hf
    injection hf with e3 hf
    injection hf with e4 hf
    injection hf with e5 hf
    exact ⟨.ref a, hσ, a, C, dx, fs, u1, rfl, ha, cl, na _ (by simp [FIVE]), e1, .ref a, hσ, a, C, dx, fs, u2, rfl, ha, cl, na _ (by simp [FIVE]), e2, .ref a, hσ, a, C, dx, fs, u3, rfl, ha, cl, na _ (by simp [FIVE]), e3, .ref a, hσ, a, C, dx, fs, u4, rfl, ha, cl, na _ (by simp [FIVE]), e4, .ref a, hσ, a, C, dx, fs, u5, rfl, ha, cl, na _ (by simp [FIVE]), e5, q⟩
theorem run_eq {x y z : Str} (h : spEq (RBk K C) vs H Q E) :
    (tSeq (tIfS (tNot (tB (tCB (rIsi K) (tCons (tVar 1) (tCons (tC (.ref C)) tNil))))) (tRet (tC (.bl false))) tNext) (tSeq (tAsg (tLst (tFive K (tVar 0))) (gName 2)) (tRet (tOp (rEqX K) (tVar 2) (tLst (tFive K (tVar 1))))))) { nx := fun _ H' => Q .non H', rt := Q } (L2.start [x, y, z] vs) H := by
  obtain ⟨a, b, rfl, ⟨dx, dy, fs, gs, us, ws, ha, hb, ik, na, h1, h2, he⟩, q⟩ := h
  have cl := ik.cl
  refine ⟨.ref b, rfl, .ref b, .ref C, .ref C, .ref C, true, rfl, .own C, (.base (.ins hb cl ik.cc ik.cg ik.ct ik.cm)), ik.kit, true, rfl, ?_⟩
  show tFive K (tVar 0) [some (.ref a), some (.ref b), none] H (fun xs H1 => xs.length ≤ sizeLine ∧ ∀ p, H1 p = none → tRet (tOp (rEqX K) (tVar 2) (tLst (tFive K (tVar 1)))) { nx := fun _ H' => Q .non H', rt := Q } [some (.ref a), some (.ref b), some (.ref p)] (upd H1 p (.lst xs)))
  refine five_run (σ := [some (.ref a), some (.ref b), none]) (i := 0) rfl ha cl na h1 ?_
  refine ⟨?_, fun D1 hD1 => ?_⟩
  · have : us.length = 5 := by have := congrArg List.length h1; rw [List.length_map, List.length_map] at this; exact this.symm
    rw [this, sizeLine_eq]; decide
  have e1 : Ext H (upd H D1 (.lst us)) := Ext.upd hD1
  refine ⟨.ref D1, rfl, ?_⟩
  show tFive K (tVar 1) [some (.ref a), some (.ref b), some (.ref D1)] (upd H D1 (.lst us)) (fun xs H1 => xs.length ≤ sizeLine ∧ ∀ p, H1 p = none → rEqX K (.ref D1) (.ref p) (upd H1 p (.lst xs)) Q)
  refine five_run (σ := [some (.ref a), some (.ref b), some (.ref D1)]) (i := 1) rfl (e1 _ _ hb) cl na h2 ?_
  refine ⟨?_, fun D2 hD2 => ?_⟩
  · have : ws.length = 5 := by have := congrArg List.length h2; rw [List.length_map, List.length_map] at this; exact this.symm
    rw [this, sizeLine_eq]; decide
  have e2 : Ext (upd H D1 (.lst us)) (upd (upd H D1 (.lst us)) D2 (.lst ws)) := Ext.upd hD2
  exact ⟨20, by decide, Or.inl (Or.inl ⟨D1, D2, us, ws, rfl, rfl, Or.inl (Or.inl (e2 _ _ upd_same)), Or.inl (Or.inl upd_same), he _ (e1.trans e2)⟩), q _ (e1.trans e2)⟩
/-- x == y of two books that are alike -/
theorem o_eqBk {st : Sto} {n m : Nat} {fs gs : List (Str × AV)} {xs ys : List AV} (hn : st[n]? = some (.ins C fs)) (hm : st[m]? = some (.ins C gs)) (ik : InsK K C) (na : ∀ f ∈ FIVE, NoAttr K C f)
    (h1 : FIVE.map (fun f => fs.lookup f) = xs.map some) (h2 : FIVE.map (fun f => gs.lookup f) = ys.map some) (he : Paired (AEq st 20) xs ys) : Op K (rEqG (DIns C (RBk K C))) (.o n) (.o m) st (dB true) := fun c v w e s r1 r2 Q q => by
  obtain ⟨a, ia, rfl⟩ := r1
  obtain ⟨b, ib, rfl⟩ := r2
  obtain ⟨dx, ws1, g1, g2⟩ := s.ob n a _ ia (by rw [e]; exact hn)
  obtain ⟨dy, ws2, g3, g4⟩ := s.ob m b _ ib (by rw [e]; exact hm)
  have look : ∀ {ws : List (Str × V)} {fs : List (Str × AV)} {xs : List AV} (l : List Str), Rf K c ws fs → l.map (fun f => fs.lookup f) = xs.map some → ∃ us, l.map (fun f => ws.lookup f) = us.map some ∧ Rvs K c us xs := by
    intro ws fs xs l r
    induction l generalizing xs with
    | nil =>
      intro h
      cases xs with
      | nil => exact ⟨[], rfl, .nil⟩
      | cons => cases h
    | cons f l ih =>
      intro h
      cases xs with
      | nil => cases h
      | cons x xs =>
        injection h with e1 e2
        obtain ⟨us, hu, ru⟩ := ih e2
        obtain ⟨v, hv, rv⟩ := rf_get r e1
        exact ⟨v :: us, by rw [List.map_cons, hv, hu]; rfl, .cons rv ru⟩
  obtain ⟨us, hu1, ru1⟩ := look FIVE g2 h1
  obtain ⟨ws, hw1, rw1⟩ := look FIVE g4 h2
  have grow : ∀ H', Ext c.hp H' → Tr c { c with hp := H' } ∧ SR K { c with hp := H' } := fun H' ex => by
    have up : ∀ x, c.hp x ≠ none → H' x = c.hp x := fun x hx => by
      cases hc : c.hp x with
      | none => exact absurd hc hx
      | some o => exact ex x o hc
    have dn : ∀ x, H' x = none → c.hp x = none := fun x hx => by
      cases hc : c.hp x with
      | none => rfl
      | some o => rw [ex x o hc] at hx; cases hx
    have t : Tr c { c with hp := H' } := ⟨⟨[], by simp⟩, fun x o hx ho => ⟨hx, ex x o ho⟩, dn, rfl, fun x hx => up x (s.hd x hx)⟩
    refine ⟨t, s.dj, fun x hx h => s.hd x hx (t.dom x h), s.len, s.nd, fun x hx h => s.al x hx (t.dom x h), fun i x o e1 e2 => (s.ob i x o e1 e2).tr t ?_⟩
    cases hc : c.hp x with
    | none => exact absurd hc (s.al x (List.mem_of_getElem? e1))
    | some o => exact ex x o hc
  refine ⟨⟨a, b, dx, dy, ws1, ws2, rfl, rfl, g1, g3, dx, dy, ws1, ws2, us, ws, g1, g3, ik, na, hu1, hw1, fun H' ex => ?_⟩, fun H' ex => ?_⟩
  · obtain ⟨t, s'⟩ := grow H' ex
    exact paired_mem (fun v w x y a b d => aeq_eqx s' e 20 x y v w d a b) (paired_imp (fun _ _ r => t.rv r) ru1) (paired_imp (fun _ _ r => t.rv r) rw1) he
  · obtain ⟨t, s'⟩ := grow H' ex
    exact q (.bl true) { c with hp := H' } t s' e (.bl _)
end
end AL

set_option Elab.async false
set_option linter.all false
set_option maxRecDepth 100000
set_option maxHeartbeats 4000000
/-! AL32: fields with the frag named; an empty range; a store that ends in known objects. -/
namespace AL
open PySem PySem.Spec PyProof.Rows L2
section
variable {X : Cx} {e e2 o : Expr} {te te2 ta tv : TE} {p pos tpos : Pos} {f : Str}
theorem x_fld {K : PySem.W.Frag} (he : PE X e ta) (hb : attributeBase e f X.env (eval e X.env) = eval e X.env := by rfl) (hK : X.K = K := by rfl) : PE X (.Attribute e f pos) (tFld K ta f) := by
  subst hK
  exact pe_fld he hb
theorem x_fset {K : PySem.W.Frag} {value : Expr} {pos' : Pos} (ha : PE X o ta) (hv : PE X value tv) (hs : swapsWith value (some (.Attribute o f pos')) pos.line X.env = pure false := by rfl) (hK : X.K = K := by rfl) : PS X (.Assign [.Attribute o f pos'] value pos) (sFld K ta tv f) := by
  subst hK
  exact ps_fld ha hv hs
theorem x_faug {K : PySem.W.Frag} {value : Expr} (ha : PE X o ta) (hv : PE X value tv) (hK : X.K = K := by rfl) : PS X (.AugAssign (.Attribute o f tpos) .Add value pos) (sFldAug K ta tv rAdd f) := by
  subst hK
  exact ps_fldaug ha hv in_add
theorem x_rng2 {tg : Expr} (B : BT X.mg) (ha : PE X e te) (hb : PE X e2 te2) (hg : Gl X "range" := by rfl) (hs1 : starEach [e, e2] X.env = (false, eval e X.env) :: starEach [e2] X.env := by rfl) (hs2 : starEach [e2] X.env = (false, eval e2 X.env) :: starEach [] X.env := by rfl)
    (hs : starEach [e, e2] X.env = [(false, eval e X.env), (false, eval e2 X.env)] := by rfl) (hs3 : starEach [e2] X.env = [(false, eval e2 X.env)] := by rfl) : PI X tg (.Call (.Name "range" p) [e, e2] [] pos) (iRng2 (tCons te (tCons te2 tNil))) :=
  pi_range2 hg B.range (pa_cons ha (pa_cons hb pa_nil hs2) hs1) hs hs3
end
section
variable {K : PySem.W.Frag} {b : Cf} {sl : Sl} {st : Sto} {te ta tc : TE} {tt : TT} {p : Bool} {Φ : AV → Sto → Prop}
theorem ei_rng2n {ta : TA} (h : Ea K ta sl st [dI 1, dI 1]) : Ei K (iRng2 ta) sl st [] := fun c σ e s S' R q => h c σ e s S' _ fun vs c1 t1 s1 e1 r1 => by
  obtain ⟨v, w, rfl, r2, r3⟩ := rvs2 r1
  cases rv_i r2
  cases rv_i r3
  refine ⟨1, 1, rfl, by decide, q _ c1 t1 s1 e1 ⟨fun c2 i u s hi => ?_, fun c2 u s => ?_, fun c2 i x v H' u s hx hy => ?_⟩⟩
  · cases hi
  · exact Nat.le_refl _
  · cases hx
theorem o_notNO {n : Nat} : Op K rNotN (.o n) dN st (dB true) := fun c v w e s r1 r2 Q q => ⟨rv_n r2, by
  obtain ⟨a, _, rfl⟩ := r1
  exact q _ c (Tr.refl c) s e (.bl _)⟩
theorem wx_ifE (h : Et K tt sl st p) (h1 : p = true → Wx K b ta sl st Φ) (h2 : p = false → Wx K b tc sl st Φ) : Wx K b (tIf tt ta tc) sl st Φ := wx_if (wt_of h (by
  cases p with
  | true => exact h1 rfl
  | false => exact h2 rfl))
end
theorem at_ {l m : Sto} {j : Nat} {o : AO} (h : m[j]? = some o) : (l ++ m)[l.length + j]? = some o := by
  rw [List.getElem?_append_right (Nat.le_add_right _ _), Nat.add_sub_cancel_left]
  exact h
theorem set_ {l m : Sto} {j : Nat} {o : AO} : (l ++ m).set (l.length + j) o = l ++ m.set j o := by
  rw [List.set_append_right _ _ (Nat.le_add_right _ _), Nat.add_sub_cancel_left]
end AL

set_option Elab.async false
set_option linter.all false
set_option maxRecDepth 100000
set_option maxHeartbeats 4000000
/-! AL33: name = [..], name = {.. for .. for ..} on one line. -/
namespace AL
open PySem PySem.Spec PyProof.Rows L2
section
variable {X : Cx}
/-- .. over a locked thing -/
theorem ps_setLcK {i : Nat} {y : Str} {py : Pos} {elt tg iter : Expr} {ifs : List Expr} {scope : Scope} {own : List (Str × Nat)} {pos spos : Pos} {wi : TI} {g : TG} {tt : TT} {te : TE} (hc : X.calm = true) (hN : X.N.Nodup) (hy : X.N[i]? = some y) (hyl : X.env.scope.names.lookup y = some .local)
    (hsw : swapsWith (.ListComp elt [⟨tg, iter, ifs, 0⟩] scope pos) (some (.Name y py)) spos.line X.env = pure true) (hi : PI X tg iter wi) (ok : BlkOk X.N X.env.scope scope own)
    (hg : ∀ (s : Shared) (H : Hp) (C : Addr) (cl : List (Str × Addr)) (fp : List Addr), PG (X.blk s H scope (compEnvC scope cl C X.env) fp) tg g) (ht : ∀ (s : Shared) (H : Hp) (C : Addr) (cl : List (Str × Addr)) (fp : List Addr), PTs (X.blk s H scope (compEnvC scope cl C X.env) fp) ifs tt)
    (he : ∀ (s : Shared) (H : Hp) (C : Addr) (cl : List (Str × Addr)) (fp : List Addr), PE (X.blk s H scope (compEnvC scope cl C X.env) fp) elt te) (hs : ∀ x, foldedSetIterable iter X.env x = pure x := by intro _; rfl) :
    PS X (.Assign [.Name y py] (.ListComp elt [⟨tg, iter, ifs, 0⟩] scope pos) spos) (tAsg (tLockE (tLc wi g tt te (own.map (·.2)))) (gName i)) := by
  refine ⟨fun pins s σ H D I h => ?_⟩
  have h : tLockE (tLc wi g tt te (own.map (·.2))) σ H (fun x H1 => gName i x σ H1 D.nx) := h
  obtain ⟨d, u, hd, mu, hw⟩ := h
  refine (ps_lock (ps_setLc hc hN hy hyl hsw hi ok hg ht he hs)).run pins s σ H D I ⟨d, u, hd, mu, fun od => ?_⟩
  exact hw od
theorem ps_setDc2 {i : Nat} {y : Str} {py : Pos} {kx vx tg iter tg1 iter1 : Expr} {ifs ifs1 : List Expr} {scope : Scope} {own : List (Str × Nat)} {vs1 : List Nat} {pos spos : Pos} {wi wi1 : TI} {g g1 : TG} {tt tt1 : TT} {tk tv : TE} (hc : X.calm = true) (hN : X.N.Nodup) (hy : X.N[i]? = some y) (hyl : X.env.scope.names.lookup y = some .local)
    (hsw : swapsWith (.DictComp kx vx [⟨tg, iter, ifs, 0⟩, ⟨tg1, iter1, ifs1, 0⟩] scope pos) (some (.Name y py)) spos.line X.env = pure true) (hi : PI X tg iter wi) (ok : BlkOk X.N X.env.scope scope own) (hv : ∀ i ∈ vs1, i ∈ own.map (·.2))
    (hg : ∀ (s : Shared) (H : Hp) (C : Addr) (cl : List (Str × Addr)) (fp : List Addr), PG (X.blk s H scope (compEnvC scope cl C X.env) fp) tg g) (ht : ∀ (s : Shared) (H : Hp) (C : Addr) (cl : List (Str × Addr)) (fp : List Addr), PTs (X.blk s H scope (compEnvC scope cl C X.env) fp) ifs tt)
    (hi1 : ∀ (s : Shared) (H : Hp) (C : Addr) (cl : List (Str × Addr)) (fp : List Addr), PI (X.blk s H scope (compEnvC scope cl C X.env) fp) tg1 iter1 wi1)
    (hg1 : ∀ (s : Shared) (H : Hp) (C : Addr) (cl : List (Str × Addr)) (fp : List Addr), PG (X.blk s H scope (compEnvC scope cl C X.env) fp) tg1 g1) (ht1 : ∀ (s : Shared) (H : Hp) (C : Addr) (cl : List (Str × Addr)) (fp : List Addr), PTs (X.blk s H scope (compEnvC scope cl C X.env) fp) ifs1 tt1)
    (hk : ∀ (s : Shared) (H : Hp) (C : Addr) (cl : List (Str × Addr)) (fp : List Addr), PE (X.blk s H scope (compEnvC scope cl C X.env) fp) kx tk)
    (he : ∀ (s : Shared) (H : Hp) (C : Addr) (cl : List (Str × Addr)) (fp : List Addr), PE (X.blk s H scope (compEnvC scope cl C X.env) fp) vx tv) (hs : ∀ x, foldedSetIterable iter X.env x = pure x := by intro _; rfl) (hs1 : ∀ env x, foldedSetIterable iter1 env x = pure x := by intro _ _; rfl) :
    PS X (.Assign [.Name y py] (.DictComp kx vx [⟨tg, iter, ifs, 0⟩, ⟨tg1, iter1, ifs1, 0⟩] scope pos) spos) (tAsg (tDc2 wi g tt wi1 g1 tt1 tk tv (own.map (·.2)) vs1) (gName i)) := by
  refine ⟨fun pins s σ H D I h => ?_⟩
  rw [exec_Assign_Name_used _ _ _ _ hsw]
  refine wpAny_bind (wpAny_standAt (wpAny_bind ?_))
  show wpAny _ X.A (do let _ ← comprehension (.DictComp kx vx [⟨tg, iter, ifs, 0⟩, ⟨tg1, iter1, ifs1, 0⟩] scope pos) scope X.env (firstIterPos [⟨tg, iter, ifs, 0⟩, ⟨tg1, iter1, ifs1, 0⟩] pos) newDict false (eval iter X.env) (some (assign (.Name y py) X.env))) _ _ s
  have h : tDc2 wi g tt wi1 g1 tt1 tk tv (own.map (·.2)) vs1 σ H (fun x H1 => gName i x σ H1 D.nx) := h
  refine wpAny_bind (thn (dc2_core (Qf := fun _ s' => SP X pins D .next s') hc hN I hi ok hv hg ht hk he hs hi1 hg1 ht1 hs1 h fun L C s' m H' I' q hn f => ?_) fun _ s' hq => wpAny_pure (wpAny_pure hq))
  show wpAny _ _ (assign (.Name y py) X.env (.ref L)) _ _ _
  refine wpAny_assign_Name (store_ok2 (v := V.ref L) I' hN hy (.inl hyl) rfl (fun s2 I2 ⟨a, sb, ha⟩ => ?_) (.inr hyl))
  obtain ⟨f0, f1, f2, f3, f4, f5⟩ := f
  have haC : C ≠ a := by
    rcases ha with z | z
    · rw [z]; exact f1
    · exact fun e => f4 y a z e.symm
  refine ⟨m, hn.sameBut sb haC, fun h3 sb3 => ?_⟩
  exact ⟨_, H', I2.turned (t' := s2.toks) (fun b o hb e => (sb3.2 b hb).trans e) f0 f1 f3 f4 f5, q⟩
theorem swD_true {kx vx : Expr} {gs : List Comprehension} {scope : Scope} {pos py : Pos} {y : Str} {l : Nat} {env : Env} (hk : env.scope.kind = .function) (hy : env.scope.names.lookup y = some .local) (hl : (py.line == pos.line) = true)
    (ha : (scope.names.any fun (n, k) => n == y && (k == .local || k == .cell)) = false) : swapsWith (.DictComp kx vx gs scope pos) (some (.Name y py)) l env = pure true := by
  have ky : env.kindOf y = some .local := hy
  have hb : env.blockKind = .function := by unfold Env.blockKind; rw [hk]; rfl
  unfold swapsWith
  simp only [hb, ky, ha, Expr.pos, hl]
  rfl
end
end AL

set_option Elab.async false
set_option linter.all false
set_option maxRecDepth 100000
set_option maxHeartbeats 4000000
/-! AL34: a method of what an expression makes; or, not of tests that lay objects. -/
namespace AL
open PySem PySem.Spec PyProof.Rows L2
section
variable {K : PySem.W.Frag} {b : Cf} {sl : Sl} {st : Sto} {te ta tb : TE} {t : TA} {tt tu : TT} {x y z : AV} {C : Addr} {m : Str}
theorem wx_metX {F : DS} {W : WX} {G : Sl → AE → Sto → Prop} {dvs : List V} {ds : List AV} {Φ : AV → Sto → Prop} (hW : ErrOk K b W G) (hd : ∀ c, Rvs K c dvs ds) (ho : Wx K b ta sl st fun x st1 => ∃ n fs, x = .o n ∧ st1[n]? = some (.ins C fs) ∧ fs.lookup m = none ∧ ∃ xs, Ea K t sl st1 xs ∧ F (.o n :: (xs ++ ds)) st1 Φ (G sl)) :
    Wx K b (tMetW C m (spD K F) dvs W ta t) sl st Φ := fun c σ e tb s S Q q =>
  ho c σ e tb s S _ fun w c1 x t1 s1 r1 ⟨n, fs, ex, hn, hm, xs, ha, f⟩ => by
  subst ex
  obtain ⟨a, ia, rfl⟩ := r1
  obtain ⟨dx, ws, h1, h2⟩ := s1.ob n a _ ia hn
  refine ⟨a, dx, ws, rfl, h1, rf_none h2 hm, ha c1 σ rfl s1 (t1.ss S) _ fun vs c2 t2 s2 e2 r2 => ?_⟩
  exact ⟨c2, .o n :: (xs ++ ds), Φ, G sl, rfl, s2, .cons ⟨a, t2.idx ia, rfl⟩ (paired_app r2 (hd c2)), by rw [e2]; exact f, fun v c3 x t3 s3 r3 k => q v c3 x ((t1.trans t2).trans t3) s3 r3 k, fun cls dd c3 a' t3 s3 r3 k => hW cls dd c3 σ sl a' (((tb.trans t1).trans t2).trans t3) s3 (((t1.trans t2).trans t3).ss S) r3 k⟩
theorem wt_or {Φ : Bool → Sto → Prop} (h : Wt K b tt sl st fun r st1 => if r = true then Φ true st1 else Wt K b tu sl st1 Φ) : Wt K b (tOr tt tu) sl st Φ := fun c σ e tb s S Q q => h c σ e tb s S _ fun r c1 t1 s1 k => by
  cases r with
  | true => exact q true c1 t1 s1 k
  | false => exact (show Wt K b tu sl c1.st Φ from k) c1 σ rfl (tb.trans t1) s1 (t1.ss S) _ fun r2 c2 t2 s2 k2 => q r2 c2 (t1.trans t2) s2 k2
theorem wt_not {Φ : Bool → Sto → Prop} (h : Wt K b tt sl st fun r st1 => Φ (!r) st1) : Wt K b (tNot tt) sl st Φ := fun c σ e tb s S Q q => h c σ e tb s S _ fun r c1 t1 s1 k => q (!r) c1 t1 s1 k
end
end AL

set_option Elab.async false
set_option linter.all false
set_option maxRecDepth 100000
set_option maxHeartbeats 4000000
/-! TX1: plain law of texts: cut and join, numbers. -/
namespace TX
open PySem
abbrev S (l : List Nat) : Str := ⟨l.toArray⟩
theorem S_tl (z : Str) : S z.cps.toList = z := SX.S_tl z
theorem S_len (l : List Nat) : (S l).length = l.length := SX.S_len l
theorem len_tl (z : Str) : z.length = z.cps.toList.length := TL.len_tl z
/-- l cut at each c -/
def cut (c : Nat) : List Nat → List (List Nat)
  | [] => [[]]
  | x :: r => if x = c then [] :: cut c r else match cut c r with
    | h :: t => (x :: h) :: t
    | [] => [[x]]
theorem cut_ne (c : Nat) : ∀ l, cut c l ≠ []
  | [] => by simp [cut]
  | x :: r => by
    unfold cut
    by_cases h : x = c
    · rw [if_pos h]; simp
    · rw [if_neg h]
      cases cut c r <;> simp
theorem cut_sep {c : Nat} (r : List Nat) : cut c (c :: r) = [] :: cut c r := by
  conv => lhs; unfold cut
  rw [if_pos rfl]
theorem cut_cons {c x : Nat} {r h : List Nat} {t : List (List Nat)} (hx : x ≠ c) (e : cut c r = h :: t) : cut c (x :: r) = (x :: h) :: t := by
  conv => lhs; unfold cut
  rw [if_neg hx, e]
theorem spl_cut (c : Nat) : ∀ (l acc : List Nat), TL.spl [c] 0 acc l = match cut c l with
    | h :: t => (acc ++ h) :: t
    | [] => []
  | [], acc => by simp [cut, TL.spl_nil]
  | x :: r, acc => by
    by_cases h : x = c
    · subst h
      rw [TL.spl_hit (by simp [TL.pre]), cut_sep]
      simp only [List.length_cons, List.length_nil, Nat.zero_add, Nat.sub_self, List.append_nil]
      rw [spl_cut x r []]
      have := cut_ne x r
      cases e : cut x r with
      | nil => exact absurd e this
      | cons a b => simp
    · rw [TL.spl_miss (by simp [TL.pre, h]), spl_cut c r]
      cases e : cut c r with
      | nil => exact absurd e (cut_ne c r)
      | cons a b => rw [cut_cons h e]; simp
theorem split_cut {l : List Nat} {c : Nat} (hc : c < 256) : Txt.split (S l) (S [c]) = (cut c l).map S := by
  rw [SX.split_S (by simp) (by simpa using hc), spl_cut]
  cases e : cut c l with
  | nil => exact absurd e (cut_ne c l)
  | cons a b => simp
theorem join_S (c : List Nat) (ys : List (List Nat)) : Txt.join (S c) (ys.map S) = S (TL.joinL c ys) := SX.join_S c ys
theorem join_cut (c : Nat) : ∀ l, TL.joinL [c] (cut c l) = l
  | [] => rfl
  | x :: r => by
    by_cases h : x = c
    · subst h
      rw [cut_sep]
      have := join_cut x r
      cases e : cut x r with
      | nil => exact absurd e (cut_ne x r)
      | cons a b => rw [e] at this; simp [TL.joinL, this]
    · have := join_cut c r
      cases e : cut c r with
      | nil => exact absurd e (cut_ne c r)
      | cons a b =>
        rw [cut_cons h e]
        rw [e] at this
        cases b with
        | nil => simp [TL.joinL] at this ⊢; exact this
        | cons b bs => simp [TL.joinL] at this ⊢; exact this
theorem cut_free (c : Nat) : ∀ l, ∀ p ∈ cut c l, c ∉ p
  | [], p, hp => by simp [cut] at hp; subst hp; simp
  | x :: r, p, hp => by
    have ih := cut_free c r
    by_cases h : x = c
    · subst h
      rw [cut_sep] at hp
      rcases List.mem_cons.mp hp with rfl | hp
      · simp
      · exact ih p hp
    · cases e : cut c r with
      | nil => exact absurd e (cut_ne c r)
      | cons a b =>
        rw [cut_cons h e] at hp
        rw [e] at ih
        rcases List.mem_cons.mp hp with rfl | hp
        · simp only [List.mem_cons, not_or]
          exact ⟨fun z => h z.symm, ih a (List.mem_cons_self ..)⟩
        · exact ih p (List.mem_cons_of_mem _ hp)
theorem cut_join {c : Nat} {ps : List (List Nat)} (hne : ps ≠ []) (h : ∀ p ∈ ps, c ∉ p) : cut c (TL.joinL [c] ps) = ps := by
  have e := TL.spl_join (s := c) (S := []) hne h
  rw [spl_cut] at e
  cases q : cut c (TL.joinL [c] ps) with
  | nil => exact absurd q (cut_ne _ _)
  | cons a b => rw [q] at e; simpa using e
theorem cut_mem (c : Nat) : ∀ l, ∀ p ∈ cut c l, ∀ x ∈ p, x ∈ l
  | [], p, hp, x, hx => by simp [cut] at hp; subst hp; cases hx
  | y :: r, p, hp, x, hx => by
    have ih := cut_mem c r
    by_cases h : y = c
    · subst h
      rw [cut_sep] at hp
      rcases List.mem_cons.mp hp with rfl | hp
      · cases hx
      · exact List.mem_cons_of_mem _ (ih p hp x hx)
    · cases e : cut c r with
      | nil => exact absurd e (cut_ne c r)
      | cons a b =>
        rw [cut_cons h e] at hp
        rw [e] at ih
        rcases List.mem_cons.mp hp with rfl | hp
        · rcases List.mem_cons.mp hx with rfl | hx
          · exact List.mem_cons_self ..
          · exact List.mem_cons_of_mem _ (ih a (List.mem_cons_self ..) x hx)
        · exact List.mem_cons_of_mem _ (ih p (List.mem_cons_of_mem _ hp) x hx)
theorem cut_len (c : Nat) : ∀ l, (cut c l).length ≤ l.length + 1
  | [] => by simp [cut]
  | x :: r => by
    have ih := cut_len c r
    by_cases h : x = c
    · subst h
      rw [cut_sep]
      simp; omega
    · cases e : cut c r with
      | nil => exact absurd e (cut_ne c r)
      | cons a b => rw [cut_cons h e]; rw [e] at ih; simp at ih ⊢; omega
theorem cut_sum (c : Nat) : ∀ l, ((cut c l).map List.length).sum + (cut c l).length = l.length + 1
  | [] => by simp [cut]
  | x :: r => by
    have ih := cut_sum c r
    by_cases h : x = c
    · subst h
      rw [cut_sep]
      simp; omega
    · cases e : cut c r with
      | nil => exact absurd e (cut_ne c r)
      | cons a b => rw [cut_cons h e]; rw [e] at ih; simp at ih ⊢; omega
theorem mem_le_sum : ∀ {ps : List (List Nat)} {p : List Nat}, p ∈ ps → p.length ≤ (ps.map List.length).sum
  | q :: ps, p, h => by
    rcases List.mem_cons.mp h with rfl | h
    · simp
    · have := mem_le_sum h; simp; omega
theorem cut_le {c : Nat} {l p : List Nat} (h : p ∈ cut c l) : p.length ≤ l.length := by
  have h1 := mem_le_sum h
  have h2 := cut_sum c l
  have h3 : 1 ≤ (cut c l).length := by
    cases e : cut c l with
    | nil => rw [e] at h; cases h
    | cons a b => simp
  omega
theorem joinL_len (s : List Nat) : ∀ ps : List (List Nat), (TL.joinL s ps).length ≤ (ps.map List.length).sum + ps.length * s.length
  | [] => by simp [TL.joinL]
  | [p] => by simp [TL.joinL]
  | p :: q :: r => by
    have ih := joinL_len s (q :: r)
    simp only [TL.joinL, List.length_append, List.map_cons, List.sum_cons, List.length_cons] at ih ⊢
    have : (r.length + 1 + 1) * s.length = (r.length + 1) * s.length + s.length := by rw [Nat.succ_mul]
    omega
theorem lens (l : List (List Nat)) : (l.map S).map (·.length) = l.map List.length := SX.lens l
theorem starts_S {a : List Nat} {c : Nat} : Txt.startswith (S a) (S [c]) = (a.head? == some c) := by
  unfold Txt.startswith Builtin.Str.subAt
  cases a with
  | nil => simp [S, Str.length]
  | cons x r => simp [S, Str.length, List.range_succ]
end TX
namespace TX
open PySem
def okZ (z : Str) : Prop := z.length ≤ 100000 ∧ ∀ c ∈ z.cps.toList, c < 1114112
/-- data of that depth at most, texts short, no dict -/
def Fl : Nat → PyData → Prop
  | _, .none => True
  | _, .bool _ => True
  | _, .int _ => True
  | _, .str z => okZ z
  | 0, .list _ => False
  | 0, .tuple _ => False
  | n + 1, .list ds => ∀ d ∈ ds, Fl n d
  | n + 1, .tuple ds => ∀ d ∈ ds, Fl n d
  | _, .dict _ => False
theorem strOk_of {z : Str} (h : okZ z) : PyData.canLay0 (.str z) = true := by
  show (z.cps.all (· < 0x110000)) = true
  rw [← Array.all_toList, List.all_eq_true]
  intro c hc
  exact decide_eq_true (h.2 c hc)
theorem layAll {n : Nat} (ih : ∀ d : PyData, Fl n d → PyData.canLay0 d = true ∧ d.depth ≤ n) : ∀ ds : List PyData, (∀ d ∈ ds, Fl n d) → PyData.canLayAll0 ds = true ∧ PyData.depthAll ds ≤ n
  | [], _ => ⟨rfl, Nat.zero_le _⟩
  | d :: ds, h => by
    obtain ⟨h1, h2⟩ := ih d (h d (List.mem_cons_self ..))
    obtain ⟨h3, h4⟩ := layAll ih ds fun x hx => h x (List.mem_cons_of_mem _ hx)
    refine ⟨?_, ?_⟩
    · simp only [PyData.canLayAll0, h1, h3, Bool.and_self]
    · simp only [PyData.depthAll]; omega
theorem lay_fl : ∀ (n : Nat) (d : PyData), Fl n d → PyData.canLay0 d = true ∧ d.depth ≤ n
  | n, .none, _ => ⟨by simp only [PyData.canLay0], by simp only [PyData.depth]; omega⟩
  | n, .bool _, _ => ⟨by simp only [PyData.canLay0], by simp only [PyData.depth]; omega⟩
  | n, .int _, _ => ⟨by simp only [PyData.canLay0], by simp only [PyData.depth]; omega⟩
  | n, .str z, h => ⟨strOk_of (by cases n <;> exact h), by simp only [PyData.depth]; omega⟩
  | 0, .list _, h => False.elim h
  | 0, .tuple _, h => False.elim h
  | n + 1, .list ds, h => by
    obtain ⟨h1, h2⟩ := layAll (lay_fl n) ds h
    exact ⟨by simp only [PyData.canLay0]; exact h1, by simp only [PyData.depth]; omega⟩
  | n + 1, .tuple ds, h => by
    obtain ⟨h1, h2⟩ := layAll (lay_fl n) ds h
    exact ⟨by simp only [PyData.canLay0]; exact h1, by simp only [PyData.depth]; omega⟩
  | 0, .dict _, h => False.elim h
  | n + 1, .dict _, h => False.elim h
theorem shaped_fl {n : Nat} {d : PyData} (h : Fl n d) (hn : n ≤ 64 := by decide) : SeqAt.shaped d = true := by
  obtain ⟨h1, h2⟩ := lay_fl n d h
  show (d.canLay0 && decide (d.depth ≤ 64)) = true
  rw [h1, Bool.true_and]
  exact decide_eq_true (Nat.le_trans h2 hn)
end TX

set_option Elab.async false
set_option linter.all false
set_option maxRecDepth 100000
set_option maxHeartbeats 4000000
namespace K67
open PySem PySem.Spec PyProof.Rows L2 AL
def top (i : Nat) : Stmt := PySem.Challenge.pw_appendlease_k67_logs_written.main.body.getD i (.Pass ⟨0, 0, 0, 0⟩)
/-! ### plain -/
def LETTERS : Str := "abcdefghijklmnopqrstuvwxyz"
def isWhole : PyData → Bool
  | .int _ => true
  | _ => false
def isWord : PyData → Bool
  | .str z => (decide (1 ≤ (z.length : Int)) && decide ((z.length : Int) ≤ 8)) && z.cps.toList.all fun c => decide (c ∈ LETTERS.cps.toList)
  | _ => false
def isPath : PyData → Bool
  | .tuple ds => decide ((ds.length : Int) ≤ 5) && ds.all isWord
  | _ => false
def isTime : PyData → Bool
  | .none => true
  | x => isWhole x
open TX (Fl okZ)
/-! ### promises -/
def fIsWhole : DS := fun xs st Φ _ => ∃ x, xs = [.d x] ∧ Φ (dB (isWhole x)) st
def fIsWord : DS := fun xs st Φ _ => ∃ x n, xs = [.d x] ∧ Fl n x ∧ Φ (dB (isWord x)) st
def fIsPath : DS := fun xs st Φ _ => ∃ x n, xs = [.d x] ∧ Fl n x ∧ Φ (dB (isPath x)) st
def fIsTime : DS := fun xs st Φ _ => ∃ x, xs = [.d x] ∧ Φ (dB (isTime x)) st
section
variable {P : Program} {w : World} {K : PySem.W.Frag} {mg : Str → Option Value} {base : Heap} {f : Addr} {fd : FuncData} {dvs : List V} {kws : List (Str × V)}
abbrev Fn (K : PySem.W.Frag) (x : Str) (i : Nat) (f : Addr) (fd : FuncData) : Prop := FunD K x x (defArgs (top i)) (defBody (top i)) (defScope (top i)) [] [] f fd
theorem sc_is_whole : FnScope ["thing"] ["thing"] (defScope (top 20)) := C8.fnScope_by (by decide +kernel)
theorem sc_is_word : FnScope ["thing", "sign"] ["thing"] (defScope (top 23)) := C8.fnScope_by (by decide +kernel)
theorem sc_is_path : FnScope ["thing", "word"] ["thing"] (defScope (top 24)) := C8.fnScope_by (by decide +kernel)
theorem sc_is_time : FnScope ["thing"] ["thing"] (defScope (top 26)) := C8.fnScope_by (by decide +kernel)
theorem ok_is_whole (B : BT mg) (F : Fn K "is_whole" 20 f fd) : FnOk P w K mg base (L2.CX P w) 1 f fd ["thing"] (spD K fIsWhole) := by
  refine fn_D F sc_is_whole (fun xs st Φ Ψ h => ?_) (fun cdv A outer s H E hr => ⟨_, (pss_one (ps_ret (pe_and (pe_is B (pv 0) (ty_int B)) (pe_one (pe_not (pe_is B (pv 0) (ty_bool B))))))), fun b xs st Φ Ψ h hW => ?_⟩)
  · obtain ⟨x, rfl, _⟩ := h
    rfl
  · obtain ⟨x, rfl, k⟩ := h
    refine ws_retE (x := dB (isIntD x && !isBoolD x)) (ev_andV (ev_isI (ev_var rfl)) fun _ => ev_notV (ev_isB (ev_var rfl))) ?_
    have : (isIntD x && !isBoolD x) = isWhole x := by cases x <;> rfl
    rw [this]
    exact k
theorem ok_is_word (B : BT mg) (F : Fn K "is_word" 23 f fd) (g_LONGEST : ∃ u, mg "LONGEST" = some u ∧ RelV (.int 8) u) (g_LETTERS : ∃ u, mg "LETTERS" = some u ∧ RelV (.str LETTERS) u) : FnOk P w K mg base (L2.CX P w) 1 f fd ["thing"] (spD K fIsWord) := by
  refine fn_D F sc_is_word (fun xs st Φ Ψ h => ?_) (fun cdv A outer s H E hr => ⟨_, (pss_cons (ps_if (PW.pt (pw_or (pt_not (pt_val (pe_is B (pv 0) (ty_str B)))) (pw_or1 (pt_not (pt_chain op_LE op_LE pe_int (pe_len B (pv 0)) (C8.pe_gc rfl g_LONGEST)))))) (pss_one (ps_ret pe_bl)) pss_nil)
      (pss_one (ps_ret (pe_all B (pe_lc (own := [("sign", 1)]) (g := gName 1) (tt := tYes) rfl sc_is_word.nd (pi_str (pv 0)) (blkOk_by (N := ["thing", "sign"]) (sc := defScope (top 23)) (by decide +kernel)) (fun _ _ _ _ _ => pg_name (i := 1) sc_is_word.nd rfl (Or.inl rfl)) (fun _ _ _ _ _ => pts_nil) (fun _ _ _ _ _ => (x_inS (pv 1) (C8.pe_gc rfl g_LETTERS)))))))), fun b xs st Φ Ψ h hW => ?_⟩)
  · obtain ⟨x, _, rfl, _⟩ := h
    rfl
  · obtain ⟨x, n, rfl, hx, k⟩ := h
    cases x with
    | str z =>
      have hx : z.length ≤ 10000000 := Nat.le_trans (show okZ z by cases n <;> exact hx).1 (by decide)
      refine ws_guard (et_or (et_not (et_B (ev_isS (ev_var rfl)))) fun _ => et_not (et_chain ev_i (ev_lenS (ev_var rfl) hx) o_leI (fun _ => ev_i) fun _ => o_leI)) (fun hp => ?_) (fun hp => ?_)
      · refine ws_retE ev_b ?_
        have e : isWord (.str z) = false := by
          simp only [isStrD, Bool.not_true, Bool.false_or, Bool.not_eq_true'] at hp
          simp only [isWord, hp, Bool.false_and]
        rw [e] at k
        exact k
      · simp only [isStrD, Bool.not_true, Bool.false_or, Bool.not_eq_false'] at hp
        refine ws_retE (ev_allM (ev_lcN (mk := fun k => dS (AL.S [k])) (f := fun c => .bool (decide (c ∈ LETTERS.cps.toList))) (ei_str (ev_var rfl)) (by rw [← TX.len_tl]; simp only [Bool.and_eq_true, decide_eq_true_eq] at hp; omega) (by decide) fun c _ => ev_op (ev_var rfl) ev_s o_inS)) ?_
        have e : isWord (.str z) = z.cps.toList.all fun c => decide (c ∈ LETTERS.cps.toList) := by
          simp only [isWord, hp, Bool.true_and]
        rw [← e]
        exact k
    | _ => exact ws_guard (et_or (et_not (et_B (ev_isS (ev_var rfl)))) (q := true) fun h => by cases h) (fun hp => ws_retE ev_b k) (fun hp => by cases hp)
abbrev DefD (P : Program) (w : World) (K : PySem.W.Frag) (mg : Str → Option Value) (base : Heap) (k : Nat) (x : Str) (F : DS) : Prop := DefOk P w K mg base k x [] (spD K F)
theorem rnil : ∀ c, Rvs K c ([] : List V) ([] : List AV) := fun _ => .nil
theorem ok_is_path (B : BT mg) (F : Fn K "is_path" 24 f fd) (g_DEEPEST : ∃ u, mg "DEEPEST" = some u ∧ RelV (.int 5) u) (c_is_word : DefD P w K mg base 1 "is_word" fIsWord) : FnOk P w K mg base (L2.CX P w) 2 f fd ["thing"] (spD K fIsPath) := by
  refine fn_D F sc_is_path (fun xs st Φ Ψ h => ?_) (fun cdv A outer s H E hr => ⟨_, (pss_one (ps_ret (pe_and (pe_is B (pv 0) (ty_tuple B)) (pe_and (x_le (pe_len B (pv 0)) (C8.pe_gc rfl g_DEEPEST)) (pe_one (pe_all B (pe_lc (own := [("word", 1)]) (g := gName 1) (tt := tYes) rfl sc_is_path.nd (pi_tup (pv 0)) (blkOk_by (N := ["thing", "word"]) (sc := defScope (top 24)) (by decide +kernel)) (fun _ _ _ _ _ => pg_name (i := 1) sc_is_path.nd rfl (Or.inl rfl)) (fun _ _ _ _ _ => pts_nil) (fun _ _ _ _ _ => (pe_f c_is_word hr takes0 (pa_cons (pv 1) pa_nil)))))))))), fun b xs st Φ Ψ h hW => ?_⟩)
  · obtain ⟨x, _, rfl, _⟩ := h
    rfl
  · obtain ⟨x, n, rfl, hx, k⟩ := h
    cases x with
    | tuple ds =>
      have hd : ∀ d ∈ ds, ∃ m, Fl m d := by
        cases n with
        | zero => exact False.elim hx
        | succ n => exact fun d hm => ⟨n, hx d hm⟩
      refine ws_retE (x := dB (isTupD (.tuple ds) && (decide ((ds.length : Int) ≤ 5) && ds.all isWord))) (ev_andV (ev_isT (x := .tuple ds) (ev_var rfl)) fun _ => ev_andV (ev_op (ev_lenT (ev_var rfl)) ev_i o_leI) fun hl => ev_allM (ev_lcN (mk := AV.d) (f := fun d => .bool (isWord d)) (ei_tup (ev_var rfl)) (by simp only [decide_eq_true_eq] at hl; omega) (by decide) fun d hm => ?_)) ?_
      · obtain ⟨m, hf⟩ := hd d hm
        exact ev_cal rnil (ea_cons (ev_var rfl) ea_nil) ⟨d, m, rfl, hf, rfl, rfl⟩
      · exact k
    | _ => exact ws_retE (ev_andV (ev_isT (ev_var rfl)) (q := true) fun h => by cases h) k
theorem ok_is_time (B : BT mg) (F : Fn K "is_time" 26 f fd) (c_is_whole : DefD P w K mg base 1 "is_whole" fIsWhole) : FnOk P w K mg base (L2.CX P w) 2 f fd ["thing"] (spD K fIsTime) := by
  refine fn_D F sc_is_time (fun xs st Φ Ψ h => ?_) (fun cdv A outer s H E hr => ⟨_, (pss_one (ps_ret (pe_or (x_isN (pv 0) pe_non) (pe_one (pe_f c_is_whole hr takesD (pa_cons (pv 0) pa_nil)))))), fun b xs st Φ Ψ h hW => ?_⟩)
  · obtain ⟨x, rfl, _⟩ := h
    rfl
  · obtain ⟨x, rfl, k⟩ := h
    refine ws_retE (x := dB (AL.isNone x || isWhole x)) (ev_orV (ev_op (ev_var rfl) ev_n o_isN) fun _ => ev_cal rnil (ea_cons (ev_var rfl) ea_nil) ⟨x, rfl, rfl, rfl⟩) ?_
    have : (AL.isNone x || isWhole x) = isTime x := by cases x <;> rfl
    rw [this]
    exact k
end
end K67

set_option Elab.async false
set_option linter.all false
set_option maxRecDepth 100000
set_option maxHeartbeats 4000000
namespace K67
open PySem PySem.Spec PyProof.Rows L2 AL
open TX (Fl okZ)
/-! ### entries -/
inductive Kd where | p | w | t
def Kd.ok : Kd → PyData → Bool
  | .p => isPath
  | .w => isWhole
  | .t => isTime
def forms : List (Str × List Kd) := [("make", [.p]), ("folder", [.p]), ("move", [.p, .p]), ("copy", [.p, .p]), ("drop", [.p, .w]), ("bring", [.w, .p]), ("clear", [.w]), ("number", [.w]), ("piece", [.p, .w]), ("own", [.p, .w, .w]), ("raise", [.w, .w, .t]), ("edition", [.w, .w, .t])]
def formOf (z : Str) : Option (List Kd) := (forms.find? fun q => decide (q.1 = z)).map (·.2)
def isEntry : PyData → Bool
  | .tuple (.str z :: ds) => match formOf z with
    | some ks => decide (((ds.length : Nat) : Int) = ((ks.length : Nat) : Int)) && (ks.zip ds).all fun q => q.1.ok q.2
    | none => false
  | _ => false
structure Ads where
  p : Addr
  w : Addr
  t : Addr
def Ads.of (a : Ads) : Kd → Addr
  | .p => a.p
  | .w => a.w
  | .t => a.t
/-- the written table of forms, at d -/
structure FormsOk (K : PySem.W.Frag) (w : World) (d : Addr) (a : Ads) : Prop where
  kd : ∃ es n, KDict K w d es n
  hit : ∀ z ks, formOf z = some ks → ∃ t, KDct K w d z (.ref t) ∧ (∃ u, PySem.W.nsIn K d z = some (some u)) ∧ ∀ H, SqT K H t (ks.map fun k => V.ref (a.of k))
  miss : ∀ z, formOf z = none → PySem.W.nsIn K d z = some none
  pw : a.p ≠ a.w
  pt : a.p ≠ a.t
  wt : a.w ≠ a.t
def Ads.tab (a : Ads) (f : Addr) : Option DS := if f = a.p then some fIsPath else if f = a.w then some fIsWhole else if f = a.t then some fIsTime else none
def fIsEntry : DS := fun xs st Φ _ => ∃ x n, xs = [.d x] ∧ Fl n x ∧ n ≤ 60 ∧ (∀ ds, x = .tuple ds → ds.length ≤ 100000) ∧ Φ (dB (isEntry x)) st
section
variable {P : Program} {w : World} {K : PySem.W.Frag} {mg : Str → Option Value} {base : Heap} {f d : Addr} {fd : FuncData} {a : Ads}
theorem sc_is_entry : FnScope ["thing", "word", "rest", "look", "one"] ["thing"] (defScope (top 29)) := C8.fnScope_by (by decide +kernel)
theorem tab_held (c_p : HeldD P w K mg base 2 a.p (spD K fIsPath)) (c_w : HeldD P w K mg base 2 a.w (spD K fIsWhole)) (c_t : HeldD P w K mg base 2 a.t (spD K fIsTime)) : ∀ f F, a.tab f = some F → HeldD P w K mg base 2 f (spD K F) := fun f F h => by
  unfold Ads.tab at h
  by_cases h1 : f = a.p
  · rw [if_pos h1] at h; cases h; subst h1; exact c_p
  · rw [if_neg h1] at h
    by_cases h2 : f = a.w
    · rw [if_pos h2] at h; cases h; subst h2; exact c_w
    · rw [if_neg h2] at h
      by_cases h3 : f = a.t
      · rw [if_pos h3] at h; cases h; subst h3; exact c_t
      · rw [if_neg h3] at h; cases h
theorem ev_is_len {ks : List Kd} {t : Addr} {st : Sto} (h : ∀ H, SqT K H t (ks.map fun k => V.ref (a.of k))) : Oc K (rLEN K) [.raw (.ref t)] st (dI ks.length) := by
  have := o_lenK (K := K) (st := st) h
  rw [List.length_map] at this
  exact this
theorem Fl_elem {n : Nat} {ds : List PyData} (h : Fl n (.tuple ds)) {x : PyData} (hx : x ∈ ds) : Fl (n - 1) x := by
  cases n with
  | zero => exact False.elim h
  | succ n => exact h x hx
theorem ok_is_entry (B : BT mg) (F : Fn K "is_entry" 29 f fd) (FO : FormsOk K w d a) (g_FORMS : ∃ u, mg "FORMS" = some u ∧ RelV (.ref d) u)
    (A_look : ∀ f F, a.tab f = some F → HeldD P w K mg base 2 f (spD K F)) : FnOk P w K mg base (L2.CX P w) 3 f fd ["thing"] (spD K fIsEntry) := by
  have D_FORMS := FO.kd
  refine fn_D F sc_is_entry (fun xs st Φ Ψ h => ?_) (fun cdv A outer s H E hr => ⟨_, (pss_cons (ps_if (PW.pt (pw_or (pt_not (pt_val (x_is (K := K) B (pv 0) (ty_tuple B)))) (pw_or (t_eq (K := K) hr.units (pv 0) (pe_tup pa_nil)) (pw_or (pt_not (pt_val (x_is (K := K) B (x_ix (K := K) (pv 0) pe_int) (ty_str B)))) (pw_or1 (t_niF (K := K) D_FORMS (x_ix (K := K) (pv 0) pe_int) (C8.pe_gc rfl g_FORMS))))))) (pss_one (ps_ret pe_bl)) pss_nil)
      (pss_cons (ps_asg (pv 0) (pg_star (i := 1) rfl (pgs_cons (pg_name (i := 1) sc_is_entry.nd rfl (by first | exact Or.inl rfl | exact Or.inr rfl)) (pgs_star (pg_name (i := 2) sc_is_entry.nd rfl (by first | exact Or.inl rfl | exact Or.inr rfl)) pgs_nil))))
      (pss_one (ps_ret (pe_and (x_eq (K := K) hr.units (x_len (K := K) B (pv 2)) (x_len (K := K) B (x_ixF (K := K) (C8.pe_gc rfl g_FORMS) (pv 1)))) (pe_one (x_all (K := K) B (pe_lc (own := [("look", 3), ("one", 4)]) (g := gTup K 2 (gCons (gName 3) (gCons (gName 4) gNil))) (tt := tYes) rfl sc_is_entry.nd (x_zip B (x_ixF (K := K) (C8.pe_gc rfl g_FORMS) (pv 1)) (pv 2)) (blkOk_by (N := ["thing", "word", "rest", "look", "one"]) (sc := defScope (top 29)) (by decide +kernel)) (fun _ _ _ _ _ => pg_tup rfl (pgs_cons (pg_name (i := 3) sc_is_entry.nd rfl (by first | exact Or.inl rfl | exact Or.inr rfl)) (pgs_cons (pg_name (i := 4) sc_is_entry.nd rfl (by first | exact Or.inl rfl | exact Or.inr rfl)) pgs_nil))) (fun _ _ _ _ _ => pts_nil) (fun _ _ _ _ _ => (x_callH (K := K) (i := 3) A_look hr takes0 (pa_cons (pv 4) pa_nil))))))))))), fun b xs st Φ Ψ h hW => ?_⟩)
  · obtain ⟨x, _, rfl, _⟩ := h
    rfl
  · obtain ⟨x, n, rfl, hx, hn, hlen, k⟩ := h
    cases x with
    | tuple ds =>
      cases ds with
      | nil =>
        refine ws_guard (et_or (p := !isTupD (.tuple [])) (et_not (et_B (ev_isT (x := .tuple []) (ev_var rfl)))) fun _ => et_or (p := PyData.eqv (.tuple []) (.tuple [])) (et_test (ev_op (ev_var rfl) (ev_tup (ds := []) ea_nil (by decide)) (o_eqD (TX.shaped_fl hx (by omega)) rfl))) (q := true) fun h => by cases h) (fun _ => ws_retE ev_b k) (fun hp => by cases hp)
      | cons d0 ds =>
        have h0 : atI (d0 :: ds) 0 = some d0 := by simp [atI, ixN]
        have hne : PyData.eqv (.tuple (d0 :: ds)) (.tuple []) = false := by simp only [PyData.eqv, PyData.eqvAll]
        have hl : ds.length ≤ 100000 := by have := hlen _ rfl; simp at this; omega
        have e1 : Et K (tTest (tOp (rEQ K) (tVar 0) (tTup tNil))) (startS ["thing", "word", "rest", "look", "one"] [.d (.tuple (d0 :: ds))]) st false := et_is (et_test (ev_op (ev_var rfl) (ev_tup (ds := []) ea_nil (by decide)) (o_eqD (TX.shaped_fl hx (by omega)) rfl))) hne
        have e2 : Ev K (tOp (rIx K) (tVar 0) (tC (.int 0))) (startS ["thing", "word", "rest", "look", "one"] [.d (.tuple (d0 :: ds))]) st (.d d0) := ev_op (ev_var rfl) ev_i (o_ixT h0)
        have t0 : Et K (tNot (tB (tCB (rIs K) (tCons (tVar 0) (tCons (tC (.ty "tuple")) tNil))))) (startS ["thing", "word", "rest", "look", "one"] [.d (.tuple (d0 :: ds))]) st false := et_not (et_B (ev_isT (x := .tuple (d0 :: ds)) (ev_var rfl)))
        cases d0 with
        | str z =>
          have t2 := et_not (et_B (ev_isS (x := .str z) e2))
          cases hf : formOf z with
          | none =>
            have t3 := et_test (ev_op e2 ev_raw (o_notInF (FO.miss z hf)))
            refine ws_guard (et_or t0 fun _ => et_or e1 fun _ => et_or t2 fun _ => t3) (fun _ => ws_retE ev_b ?_) (fun hp => by cases hp)
            have e : isEntry (.tuple (.str z :: ds)) = false := by simp only [isEntry, hf]
            rw [e] at k
            exact k
          | some ks =>
            obtain ⟨t, hk1, ⟨u, hk2⟩, hk3⟩ := FO.hit z ks hf
            have t3 := et_test (ev_op e2 ev_raw (o_notInF hk2))
            refine ws_guard (et_or t0 fun _ => et_or e1 fun _ => et_or t2 fun _ => t3) (fun hp => by cases hp) (fun hp => ?_)
            refine ws_sq (ws_star1 (wx_of (ev_var rfl) ⟨.str z, ds, Or.inr rfl, ?_⟩))
            have e3 : ∀ sl', sl'[1]? = some (some (dS z)) → Ev K (tOp (rIxD K w) (tC (.ref d)) (tVar 1)) sl' st (.raw (.ref t)) := fun sl' h => ev_op ev_raw (ev_var h) (o_ixF hk1)
            have hks : ks.length ≤ 3 := by
              have : ∀ q ∈ forms, q.2.length ≤ 3 := by decide
              unfold formOf at hf
              cases hq : forms.find? (fun q => decide (q.1 = z)) with
              | none => rw [hq] at hf; cases hf
              | some q => rw [hq] at hf; cases hf; exact this q (List.mem_of_find?_eq_some hq)
            refine ws_retE (x := dB (decide (((ds.length : Nat) : Int) = ((ks.length : Nat) : Int)) && (ks.zip ds).all fun q => q.1.ok q.2)) (ev_andV (ev_op (ev_lenL (xs := ds) (ev_var rfl)) (ev_cb (ea_cons (e3 _ rfl) ea_nil) (ev_is_len (hk3) )) o_eqI) fun hle => ?_) ?_
            · have hz : ((((ks.map fun k => V.ref (a.of k)).map Lf.raw).zip (ds.map Lf.d)).map fun q => AV.p [q.1, q.2]) = (ks.zip ds).map fun q => .p [.raw (.ref (a.of q.1)), .d q.2] := by
                rw [List.map_map, List.zip_map, List.map_map]
                rfl
              have hi := ei_zipS (P := P) (w := w) (K := K) (sl := (((startS ["thing", "word", "rest", "look", "one"] [.d (.tuple (.str z :: ds))]).set 1 (some (.d (.str z)))).set 2 (some (dL ds)))) (st := st) (ea_cons (e3 _ rfl) (ea_cons (ev_var (i := 2) rfl) ea_nil)) (zd_raw hk3) (zd_list (ds := ds))
              rw [hz] at hi
              refine ev_allM (ev_lcG hi (by rw [List.length_zip]; omega) fun q hq => ⟨_, [3, 4], (by decide), eg_tupP (egs_cons eg_name (egs_cons eg_name egs_nil)) rfl, ?_⟩)
              have hqd : Fl (n - 1) q.2 := Fl_elem hx (List.mem_cons_of_mem _ (List.of_mem_zip hq).2)
              obtain ⟨kd, dd⟩ := q
              cases kd with
              | p => exact ev_callH (F := fIsPath) rfl (show a.tab a.p = some fIsPath by unfold Ads.tab; rw [if_pos rfl]) (ea_cons (ev_var rfl) ea_nil) ⟨dd, n - 1, rfl, hqd, rfl, rfl⟩
              | w => exact ev_callH (F := fIsWhole) rfl (show a.tab a.w = some fIsWhole by unfold Ads.tab; rw [if_neg FO.pw.symm, if_pos rfl]) (ea_cons (ev_var rfl) ea_nil) ⟨dd, rfl, rfl, rfl⟩
              | t => exact ev_callH (F := fIsTime) rfl (show a.tab a.t = some fIsTime by unfold Ads.tab; rw [if_neg FO.pt.symm, if_neg FO.wt.symm, if_pos rfl]) (ea_cons (ev_var rfl) ea_nil) ⟨dd, rfl, rfl, rfl⟩
            · have e : isEntry (.tuple (.str z :: ds)) = (decide (((ds.length : Nat) : Int) = ((ks.length : Nat) : Int)) && (ks.zip ds).all fun q => q.1.ok q.2) := by simp only [isEntry, hf]
              rw [← e]
              exact k
        | _ =>
          have t2 := et_not (et_B (ev_isS e2))
          exact ws_guard (et_or t0 fun _ => et_or e1 fun _ => et_or (q := true) t2 fun h => by cases h) (fun _ => ws_retE ev_b k) (fun hp => by cases hp)
    | _ => exact ws_guard (et_or (et_not (et_B (ev_isT (ev_var rfl)))) (q := true) fun h => by cases h) (fun hp => ws_retE ev_b k) (fun hp => by cases hp)
end
end K67

set_option Elab.async false
set_option linter.all false
set_option maxRecDepth 100000
set_option maxHeartbeats 4000000
namespace K67
open PySem PySem.Spec PyProof.Rows L2 AL
open TX (Fl okZ cut)
/-! ### words of things -/
def strOf : PyData → Str
  | .str z => z
  | _ => Str.empty
def wordOf : PyData → Str
  | .none => AL.S [45]
  | .tuple ds => AL.S [47] ++ Txt.join (AL.S [47]) (ds.map strOf)
  | .int i => toString i
  | .str z => z
  | _ => Str.empty
/-- a thing that may be written as a word -/
def Wd : PyData → Prop
  | .none => True
  | .int i => i.natAbs.log2 < 1920
  | .str z => z.length ≤ 100000
  | .tuple ds => (∀ d ∈ ds, ∃ z, d = .str z) ∧ (ds.map fun d => (strOf d).length).sum + ds.length ≤ 100000
  | _ => False
def fWordOf : DS := fun xs st Φ _ => ∃ x, xs = [.d x] ∧ Wd x ∧ Φ (dS (wordOf x)) st
def shownE (ds : List PyData) : Str := Txt.join (AL.S [32]) (ds.map wordOf)
def fShown : DS := fun xs st Φ _ => ∃ ds, xs = [dT ds] ∧ (∀ d ∈ ds, Wd d) ∧ ds.length ≤ 10 ∧ Φ (dS (shownE ds)) st
section
variable {P : Program} {w : World} {K : PySem.W.Frag} {mg : Str → Option Value} {base : Heap} {f d : Addr} {fd : FuncData} {a : Ads}
theorem sc_word_of : FnScope ["thing"] ["thing"] (defScope (top 36)) := C8.fnScope_by (by decide +kernel)
theorem sc_shown_entry : FnScope ["entry", "thing"] ["entry"] (defScope (top 37)) := C8.fnScope_by (by decide +kernel)
theorem strs_of {ds : List PyData} (h : ∀ d ∈ ds, ∃ z, d = .str z) : ds = (ds.map strOf).map PyData.str := by
  induction ds with
  | nil => rfl
  | cons d ds ih =>
    obtain ⟨z, rfl⟩ := h d (List.mem_cons_self ..)
    rw [List.map_cons, List.map_cons, ← ih fun x hx => h x (List.mem_cons_of_mem _ hx)]
    rfl
theorem join_le (s : List Nat) (ys : List Str) : (Txt.join (AL.S s) ys).length ≤ (ys.map (·.length)).sum + ys.length * s.length := by
  have e : ys = (ys.map (·.cps.toList)).map AL.S := by
    rw [List.map_map]
    exact (List.map_id'' (fun z => (TX.S_tl z)) ys).symm
  rw [e, TX.join_S, TX.S_len, TX.lens, List.length_map]
  exact TX.joinL_len s _
theorem ok_word_of (B : BT mg) (F : Fn K "word_of" 36 f fd) (g_NONE : ∃ u, mg "NONE" = some u ∧ RelV (.str (AL.S [45])) u) : FnOk P w K mg base (L2.CX P w) 1 f fd ["thing"] (spD K fWordOf) := by
  refine fn_D F sc_word_of (fun xs st Φ Ψ h => ?_) (fun cdv A outer s H E hr => ⟨_, (pss_cons (ps_if (t_isN (pv 0) pe_non) (pss_one (ps_ret (C8.pe_gc rfl g_NONE))) pss_nil)
      (pss_one (ps_ret (pe_ifExp (pt_val (x_is (K := K) B (pv 0) (ty_tuple B))) (x_add (K := K) pe_str (x_join (K := K) pe_str (pa_cons (pv 0) pa_nil))) (x_str B (pv 0)))))), fun b xs st Φ Ψ h hW => ?_⟩)
  · obtain ⟨x, rfl, _⟩ := h
    rfl
  · obtain ⟨x, rfl, hx, k⟩ := h
    have t0 : Et K (tTest (tOp rIsN (tVar 0) (tC .non))) (startS ["thing"] [.d x]) st (AL.isNone x) := et_test (ev_op (ev_var rfl) ev_n o_isN)
    have t1 : Et K (tB (tCB (rIs K) (tCons (tVar 0) (tCons (tC (.ty "tuple")) tNil)))) (startS ["thing"] [.d x]) st (isTupD x) := et_B (ev_isT (ev_var rfl))
    cases x with
    | none => exact ws_guard t0 (fun _ => ws_retE ev_s k) (fun hp => by cases hp)
    | int i => exact ws_guard t0 (fun hp => by cases hp) (fun _ => ws_retE (ev_if t1 (fun h => by cases h) fun _ => ev_cb (ea_cons (ev_var rfl) ea_nil) (o_strsI hx)) k)
    | str z => exact ws_guard t0 (fun hp => by cases hp) (fun _ => ws_retE (ev_if t1 (fun h => by cases h) fun _ => ev_cb (ea_cons (ev_var rfl) ea_nil) o_strsS) k)
    | tuple ds =>
      obtain ⟨h1, h2⟩ := hx
      have es := strs_of h1
      have hv : Ev K (tVar 0) (startS ["thing"] [.d (.tuple ds)]) st (dT ((ds.map strOf).map PyData.str)) := by rw [← es]; exact ev_var rfl
      have hs : ((ds.map strOf).map (·.length)).sum + (ds.map strOf).length * 1 ≤ 100000 := by
        rw [List.map_map, List.length_map, Nat.mul_one]; exact h2
      have hj := join_le [47] (ds.map strOf)
      exact ws_guard t0 (fun hp => by cases hp) (fun _ => ws_retE (ev_if t1 (fun _ => ev_op ev_s (ev_bm ev_s (ea_cons hv ea_nil) (o_joinT (a := AL.S [47]) (by show _ + _ * (AL.S [47]).length ≤ _; rw [TX.S_len]; exact Nat.le_trans hs (by decide)))) (o_addS (x := AL.S [47]) (by rw [TX.S_len]; simp only [List.length_cons, List.length_nil] at hj ⊢; omega))) fun h => by cases h) k)
    | bool _ => exact hx.elim
    | list _ => exact hx.elim
    | dict _ => exact hx.elim
theorem wd_len {x : PyData} (h : Wd x) : (wordOf x).length ≤ 200000 := by
  cases x with
  | none => exact (by decide : (AL.S [45]).length ≤ 200000)
  | int i =>
    have e := PySem.int_text_length_le (k := 1920) (by decide) h
    show (Str.ofString (toString i)).length ≤ 200000
    rw [PySem.ofString_length]
    exact Nat.le_trans e (by decide)
  | str z => exact Nat.le_trans h (by decide)
  | tuple ds =>
    obtain ⟨_, h2⟩ := h
    have hj := join_le [47] (ds.map strOf)
    have e : (wordOf (.tuple ds)).length = 1 + (Txt.join (AL.S [47]) (ds.map strOf)).length := by
      show (AL.S [47] ++ _).length = _
      rw [PySem.strLen_append, TX.S_len]
      rfl
    rw [e]
    rw [List.map_map, List.length_map] at hj
    simp only [List.length_cons, List.length_nil] at hj
    have : ((fun x : Str => x.length) ∘ strOf) = fun d => (strOf d).length := rfl
    rw [this] at hj
    omega
  | bool _ => exact h.elim
  | list _ => exact h.elim
  | dict _ => exact h.elim
theorem ok_shown_entry (B : BT mg) (F : Fn K "shown_entry" 37 f fd) (c_word_of : DefD P w K mg base 1 "word_of" fWordOf) : FnOk P w K mg base (L2.CX P w) 2 f fd ["entry"] (spD K fShown) := by
  refine fn_D F sc_shown_entry (fun xs st Φ Ψ h => ?_) (fun cdv A outer s H E hr => ⟨_, (pss_one (ps_ret (x_join (K := K) pe_str (pa_cons (pe_lc (own := [("thing", 1)]) (g := gName 1) (tt := tYes) rfl sc_shown_entry.nd (pi_tup (pv 0)) (blkOk_by (N := ["entry", "thing"]) (sc := defScope (top 37)) (by decide +kernel)) (fun _ _ _ _ _ => pg_name (i := 1) sc_shown_entry.nd rfl (by first | exact Or.inl rfl | exact Or.inr rfl)) (fun _ _ _ _ _ => pts_nil) (fun _ _ _ _ _ => (pe_f c_word_of hr takes0 (pa_cons (pv 1) pa_nil)))) pa_nil)))), fun b xs st Φ Ψ h hW => ?_⟩)
  · obtain ⟨x, rfl, _⟩ := h
    rfl
  · obtain ⟨ds, rfl, hx, hl, k⟩ := h
    have el := ev_lcN (K := K) (te := tCalW (spD K fWordOf) [] (fun _ _ _ _ => False) (tCons (tVar 1) tNil)) (sl := startS ["entry", "thing"] [dT ds]) (st := st) (j := 1) (vs := [1]) (mk := AV.d) (f := fun d => .str (wordOf d)) (ei_tup (ds := ds) (ev_var (i := 0) rfl)) (by omega) (by decide) fun d hd => ev_cal rnil (ea_cons (ev_var rfl) ea_nil) ⟨d, rfl, hx d hd, rfl, rfl⟩
    have e2 : (ds.map fun d => PyData.str (wordOf d)) = (ds.map wordOf).map PyData.str := by rw [List.map_map]; rfl
    rw [e2] at el
    have hb : ((ds.map wordOf).map (·.length)).sum ≤ 10 * 200000 := by
      have g : ∀ l : List PyData, (∀ d ∈ l, Wd d) → ((l.map wordOf).map (·.length)).sum ≤ l.length * 200000 := by
        intro l
        induction l with
        | nil => intro _; simp
        | cons d l ih =>
          intro h
          have h1 := wd_len (h d (List.mem_cons_self ..))
          have h2 := ih fun x hx => h x (List.mem_cons_of_mem _ hx)
          simp only [List.map_cons, List.sum_cons, List.length_cons] at h2 ⊢
          omega
      exact Nat.le_trans (g ds hx) (Nat.mul_le_mul_right _ hl)
    have hb2 : ((ds.map wordOf).map (·.length)).sum + ds.length * 1 ≤ 10000000 := by
      rw [Nat.mul_one]
      exact Nat.le_trans (Nat.add_le_add hb hl) (by decide)
    exact ws_retE (ev_bm ev_s (ea_cons el ea_nil) (o_joinL (a := AL.S [32]) (by rw [TX.S_len, List.length_map]; exact hb2))) k
end
end K67

set_option Elab.async false
set_option linter.all false
set_option maxRecDepth 100000
set_option maxHeartbeats 4000000
namespace K67
open PySem PySem.Spec PyProof.Rows L2 AL
open TX (Fl okZ cut)
/-! ### reading a word -/
def FIGS : Str := "0123456789"
def isFig (c : Nat) : Bool := decide (c ∈ FIGS.cps.toList)
def figsOf (l : List Nat) : List Nat := if l.head? = some 45 then l.drop 1 else l
def figsOk (l : List Nat) : Bool := !(decide (figsOf l = []) || (decide (30 < (figsOf l).length) || !(figsOf l).all isFig))
def numOf (l : List Nat) : Int := if l.head? = some 45 then -((NumText.digitsVal (l.drop 1) : Nat) : Int) else ((NumText.digitsVal l : Nat) : Int)
def thingL (l : List Nat) : PyData :=
  if l = [45] then .none
  else if l.head? = some 47 then (if l = [47] then .tuple [] else .tuple ((cut 47 (l.drop 1)).map fun p => .str (AL.S p)))
  else if figsOk l = true then .int (numOf l) else .str (AL.S l)
def okL (l : List Nat) : Prop := l.length ≤ 20000 ∧ ∀ c ∈ l, c < 1114112
def fThingIn : DS := fun xs st Φ _ => ∃ l, xs = [dS (AL.S l)] ∧ okL l ∧ Φ (.d (thingL l)) st
theorem isFig_iff (c : Nat) : isFig c = true ↔ 48 ≤ c ∧ c ≤ 57 := by
  have e : FIGS.cps.toList = [48, 49, 50, 51, 52, 53, 54, 55, 56, 57] := by decide
  unfold isFig
  rw [e]
  simp only [decide_eq_true_eq, List.mem_cons, List.not_mem_nil, or_false]
  omega
theorem figs_all {l : List Nat} (h : l.all isFig = true) : NumText.AllDigits l := fun c hc => (isFig_iff c).mp (List.all_eq_true.mp h c hc)
theorem num_text {l : List Nat} (h : figsOk l = true) : intText? (AL.S l) = some (numOf l) ∧ l.length ≤ 31 := by
  unfold figsOk at h
  simp only [Bool.not_eq_true', Bool.or_eq_false_iff, decide_eq_false_iff_not, Bool.not_eq_false'] at h
  obtain ⟨h1, h2, h3⟩ := h
  unfold figsOf at h1 h2 h3
  unfold numOf
  by_cases hh : l.head? = some 45
  · rw [if_pos hh] at h1 h2 h3 ⊢
    cases l with
    | nil => cases hh
    | cons c r =>
      have hc : c = 45 := by simpa using hh
      subst hc
      simp only [List.drop_succ_cons, List.drop_zero] at h1 h2 h3 ⊢
      exact ⟨PySem.intText_neg (x := AL.S (45 :: r)) (cs := r) rfl (figs_all h3) h1 (by rw [TX.S_len]; simp; omega), by simp; omega⟩
  · rw [if_neg hh] at h1 h2 h3 ⊢
    exact ⟨PySem.intText_digits (x := AL.S l) (figs_all h3) h1 (by rw [TX.S_len]; omega), by omega⟩
section
variable {P : Program} {w : World} {K : PySem.W.Frag} {mg : Str → Option Value} {base : Heap} {f d : Addr} {fd : FuncData} {a : Ads}
theorem sc_thing_in : FnScope ["word", "figures", "sign"] ["word"] (defScope (top 39)) := C8.fnScope_by (by decide +kernel)
theorem S_inj {a b : List Nat} : AL.S a = AL.S b ↔ a = b := ⟨SX.S_inj, fun h => by rw [h]⟩
theorem ev_sl1 {sl : Sl} {st : Sto} {te : TE} {l : List Nat} (h : Ev K te sl st (dS (AL.S l))) (hl : l.length ≤ 20000) : Ev K (tSl (rSL K) te (tPart (tC (.int 1))) tNoPart) sl st (dS (AL.S (l.drop 1))) := by
  have := ev_sl (r := rSL K) h (eo_some ev_i) eo_none (o_slS (lo := some 1) (hi := none) (by rw [TX.S_len]; omega))
  rw [SX.slice_from (by decide)] at this
  exact this
theorem ok_thing_in (B : BT mg) (F : Fn K "thing_in" 39 f fd) (g_NONE : ∃ u, mg "NONE" = some u ∧ RelV (.str (AL.S [45])) u) (g_FIGURES : ∃ u, mg "FIGURES" = some u ∧ RelV (.str FIGS) u) (g_MOST_FIGURES : ∃ u, mg "MOST_FIGURES" = some u ∧ RelV (.int 30) u) : FnOk P w K mg base (L2.CX P w) 1 f fd ["word"] (spD K fThingIn) := by
  refine fn_D F sc_thing_in (fun xs st Φ Ψ h => ?_) (fun cdv A outer s H E hr => ⟨_, (pss_cons (ps_if (t_eq (K := K) hr.units (pv 0) (C8.pe_gc rfl g_NONE)) (pss_one (ps_ret pe_non)) pss_nil)
      (pss_cons (ps_if (pt_val (x_starts (K := K) (pv 0) (pa_cons pe_str pa_nil))) (pss_one (ps_ret (pe_ifExp (t_ne (K := K) hr.units (pv 0) pe_str) (x_tuple (K := K) B (x_split (K := K) (x_sl (K := K) (pv 0) (po_some pe_int) po_none) (pa_cons pe_str pa_nil))) (pe_tup pa_nil)))) pss_nil)
      (pss_cons (ps_set (i := 1) sc_thing_in.nd rfl (by first | exact Or.inl rfl | exact Or.inr rfl) (pe_ifExp (pt_val (x_starts (K := K) (pv 0) (pa_cons pe_str pa_nil))) (x_sl (K := K) (pv 0) (po_some pe_int) po_none) (pv 0)))
      (pss_cons (ps_if (PW.pt (pw_or (t_eq (K := K) hr.units (pv 1) pe_str) (pw_or (t_gt (x_len (K := K) B (pv 1)) (C8.pe_gc rfl g_MOST_FIGURES)) (pw_or1 (pt_not (pt_val (x_all (K := K) B (pe_lc (own := [("sign", 2)]) (g := gName 2) (tt := tYes) rfl sc_thing_in.nd (pi_str (pv 1)) (blkOk_by (N := ["word", "figures", "sign"]) (sc := defScope (top 39)) (by decide +kernel)) (fun _ _ _ _ _ => pg_name (i := 2) sc_thing_in.nd rfl (by first | exact Or.inl rfl | exact Or.inr rfl)) (fun _ _ _ _ _ => pts_nil) (fun _ _ _ _ _ => (x_inS (pv 2) (C8.pe_gc rfl g_FIGURES))))))))))) (pss_one (ps_ret (pv 0))) pss_nil)
      (pss_one (ps_ret (x_int B (pv 0)))))))), fun b xs st Φ Ψ h hW => ?_⟩)
  · obtain ⟨x, rfl, _⟩ := h
    rfl
  · obtain ⟨l, rfl, ⟨hl, hc⟩, k⟩ := h
    have v0 : Ev K (tVar 0) (startS ["word", "figures", "sign"] [dS (AL.S l)]) st (dS (AL.S l)) := ev_var rfl
    refine ws_guard (et_test (ev_op v0 ev_s (o_eqS (y := AL.S [45])))) (fun hp => ws_retE ev_n ?_) (fun hp => ?_)
    · have e : l = [45] := S_inj.mp (of_decide_eq_true hp)
      subst e
      exact k
    have h1 : ¬ l = [45] := fun e => of_decide_eq_false hp (by rw [e])
    have ts : ∀ (c : Nat) (z : Str) (hz : z = AL.S [c]), Ev K (tBM K "str" rSTARTS (tVar 0) (tCons (tC (.str z)) tNil)) (startS ["word", "figures", "sign"] [dS (AL.S l)]) st (dB (l.head? == some c)) := fun c z hz => by
      subst hz
      have := ev_bm v0 (ea_cons (ev_s (z := AL.S [c])) ea_nil) (o_starts (K := K) (st := st) (a := AL.S l) (b := AL.S [c]))
      rw [TX.starts_S] at this
      exact this
    refine ws_guard (et_B (ts 47 "/" rfl)) (fun hp => ?_) (fun hp => ?_)
    · have h2 : l.head? = some 47 := by simpa using hp
      by_cases h3 : l = [47]
      · subst h3
        refine ws_retE (x := dT []) (ev_if (et_test (ev_op v0 ev_s (o_neS (y := AL.S [47])))) (fun h => by simp at h) fun _ => ev_tup (ds := []) ea_nil (by decide)) ?_
        exact k
      · refine ws_retE (x := dT ((cut 47 (l.drop 1)).map fun p => .str (AL.S p))) (ev_if (et_test (ev_op v0 ev_s (o_neS (y := AL.S [47])))) (fun _ => ?_) fun h => ?_) ?_
        · have e1 := ev_bm (ev_sl1 v0 hl) (ea_cons (ev_s (z := AL.S [47])) ea_nil) (o_split (K := K) (st := st) (a := AL.S (l.drop 1)) (b := AL.S [47]) rfl (by rw [TX.S_len, List.length_drop]; omega))
          rw [TX.split_cut (by decide), List.map_map] at e1
          exact ev_cb (ea_cons e1 ea_nil) o_tupL
        · simp only [Bool.not_eq_false', decide_eq_true_eq] at h
          exact absurd (S_inj.mp h) h3
        · have e : thingL l = .tuple ((cut 47 (l.drop 1)).map fun p => .str (AL.S p)) := by
            unfold thingL
            rw [if_neg h1, if_pos h2, if_neg h3]
          rw [e] at k
          exact k
    have h2 : ¬ l.head? = some 47 := by simpa using hp
    have ef : Ev K (tIf (tB (tBM K "str" rSTARTS (tVar 0) (tCons (tC (.str "-")) tNil))) (tSl (rSL K) (tVar 0) (tPart (tC (.int 1))) tNoPart) (tVar 0)) (startS ["word", "figures", "sign"] [dS (AL.S l)]) st (dS (AL.S (figsOf l))) := ev_if (et_B (ts 45 "-" rfl)) (fun h => by
      have h : l.head? = some 45 := by simpa using h
      have e : figsOf l = l.drop 1 := by unfold figsOf; rw [if_pos h]
      rw [e]
      exact ev_sl1 v0 hl) fun h => by
      have h : ¬ l.head? = some 45 := by simpa using h
      have e : figsOf l = l := by unfold figsOf; rw [if_neg h]
      rw [e]
      exact v0
    refine ws_asgS ef ?_
    have hfl : (figsOf l).length ≤ 20000 := by
      unfold figsOf
      split
      · rw [List.length_drop]; omega
      · exact hl
    have v1 : Ev K (tVar 1) ((startS ["word", "figures", "sign"] [dS (AL.S l)]).set 1 (some (dS (AL.S (figsOf l))))) st (dS (AL.S (figsOf l))) := ev_var rfl
    refine ws_guard (p := !figsOk l) (et_is (et_or (et_test (ev_op v1 ev_s (o_eqS (y := AL.S [])))) fun _ => et_or (et_test (ev_op (ev_lenS v1 (by rw [TX.S_len]; omega)) ev_i (o_Ib (f := fun i j => decide (j < i))))) fun _ => et_not (et_B (ev_allM (ev_lcN (mk := fun c => dS (AL.S [c])) (f := fun c => .bool (isFig c)) (ei_str v1) (by show (figsOf l).length ≤ _; omega) (by decide) fun c _ => ev_op (ev_var rfl) ev_s o_inS)))) ?_) (fun hp => ws_retE (ev_var rfl) ?_) (fun hp => ws_retE (ev_cb (ea_cons (ev_var rfl) ea_nil) (o_intS (num_text ?_).1 ?_)) ?_)
    · unfold figsOk
      rw [Bool.not_not]
      congr 1
      · exact decide_eq_decide.mpr S_inj
      · congr 1
        exact decide_eq_decide.mpr (by rw [TX.S_len]; omega)
    · have e : thingL l = .str (AL.S l) := by
        unfold thingL
        rw [if_neg h1, if_neg h2, if_neg (by simpa using hp)]
      rw [e] at k
      exact k
    · simpa using hp
    · rw [TX.S_len]
      have := (num_text (l := l) (by simpa using hp)).2
      omega
    · have e : thingL l = .int (numOf l) := by
        unfold thingL
        rw [if_neg h1, if_neg h2, if_pos (by simpa using hp)]
      rw [e] at k
      exact k
end
end K67

set_option Elab.async false
set_option linter.all false
set_option maxRecDepth 100000
set_option maxHeartbeats 4000000
namespace K67
open PySem PySem.Spec PyProof.Rows L2 AL
open TX (Fl okZ cut)
/-! ### reading a row -/
theorem digits_lt : ∀ (cs : List Nat) (acc : Nat), (∀ c ∈ cs, c ≤ 57) → cs.foldl (fun acc c => acc * 10 + (c - 48)) acc < (acc + 1) * 10 ^ cs.length
  | [], acc, _ => by simp
  | c :: cs, acc, h => by
    have h1 := h c (List.mem_cons_self ..)
    have ih := digits_lt cs (acc * 10 + (c - 48)) fun x hx => h x (List.mem_cons_of_mem _ hx)
    rw [List.foldl_cons, List.length_cons, Nat.pow_succ]
    refine Nat.lt_of_lt_of_le ih ?_
    have : acc * 10 + (c - 48) + 1 ≤ (acc + 1) * 10 := by omega
    calc (acc * 10 + (c - 48) + 1) * 10 ^ cs.length ≤ ((acc + 1) * 10) * 10 ^ cs.length := Nat.mul_le_mul_right _ this
      _ = (acc + 1) * (10 ^ cs.length * 10) := by rw [Nat.mul_assoc, Nat.mul_comm 10]
theorem val_lt {cs : List Nat} (h : NumText.AllDigits cs) (hl : cs.length ≤ 30) : NumText.digitsVal cs < 10 ^ 30 := by
  have := digits_lt cs 0 fun c hc => (h c hc).2
  rw [Nat.zero_add, Nat.one_mul] at this
  exact Nat.lt_of_lt_of_le this (Nat.pow_le_pow_right (by decide) hl)
theorem num_lt {l : List Nat} (h : figsOk l = true) : (numOf l).natAbs < 10 ^ 30 := by
  unfold figsOk at h
  simp only [Bool.not_eq_true', Bool.or_eq_false_iff, decide_eq_false_iff_not, Bool.not_eq_false'] at h
  obtain ⟨h1, h2, h3⟩ := h
  unfold figsOf at h1 h2 h3
  unfold numOf
  by_cases hh : l.head? = some 45
  · rw [if_pos hh] at h1 h2 h3 ⊢
    have := val_lt (figs_all h3) (by omega)
    omega
  · rw [if_neg hh] at h1 h2 h3 ⊢
    have := val_lt (figs_all h3) (by omega)
    omega
theorem log_of {i : Int} (h : i.natAbs < 10 ^ 30) : i.natAbs.log2 < 1920 := by
  by_cases h0 : i.natAbs = 0
  · rw [h0]; decide
  · rw [Nat.log2_lt h0]
    exact Nat.lt_trans h (Nat.lt_of_lt_of_le (by decide : 10 ^ 30 < 2 ^ 100) (Nat.pow_le_pow_right (by decide) (by decide)))
theorem ok_cut {c : Nat} {l p : List Nat} (h : okL l) (hp : p ∈ cut c l) : okL p := ⟨Nat.le_trans (TX.cut_le hp) h.1, fun x hx => h.2 x (TX.cut_mem c l p hp x hx)⟩
theorem ok_drop {l : List Nat} (n : Nat) (h : okL l) : okL (l.drop n) := ⟨by rw [List.length_drop]; have := h.1; omega, fun x hx => h.2 x (List.mem_of_mem_drop hx)⟩
theorem okZ_of {l : List Nat} (h : okL l) : okZ (AL.S l) := ⟨by rw [TX.S_len]; have := h.1; omega, h.2⟩
theorem wd_thing {l : List Nat} (h : okL l) : Wd (thingL l) := by
  unfold thingL
  split
  · trivial
  · split
    · split
      · exact ⟨(fun d hd => by cases hd), by decide⟩
      · refine ⟨fun d hd => ?_, ?_⟩
        · obtain ⟨p, _, rfl⟩ := List.mem_map.mp hd
          exact ⟨_, rfl⟩
        · have h1 := TX.cut_sum 47 (l.drop 1)
          have h2 := (ok_drop 1 h).1
          rw [List.map_map, List.length_map]
          have e : ((fun d => (strOf d).length) ∘ fun p => PyData.str (AL.S p)) = fun p : List Nat => p.length := by
            funext p
            exact TX.S_len p
          rw [e]
          have e2 : (cut 47 (l.drop 1)).map (fun p : List Nat => p.length) = (cut 47 (l.drop 1)).map List.length := rfl
          rw [e2]
          omega
    · split
      · rename_i hf
        exact log_of (num_lt hf)
      · show (AL.S l).length ≤ 100000
        rw [TX.S_len]; have := h.1; omega
theorem fl_thing {l : List Nat} (h : okL l) : Fl 1 (thingL l) := by
  unfold thingL
  split
  · trivial
  · split
    · split
      · exact fun d hd => by cases hd
      · intro d hd
        obtain ⟨p, hp, rfl⟩ := List.mem_map.mp hd
        exact okZ_of (ok_cut (ok_drop 1 h) hp)
    · split
      · trivial
      · exact okZ_of h
def foundL (l : List Nat) : List PyData := match cut 32 l with
  | w0 :: ws => .str (AL.S w0) :: ws.map thingL
  | [] => []
def goodL (l : List Nat) : Bool := isEntry (.tuple (foundL l)) && decide (shownE (foundL l) = AL.S l)
def entryL (l : List Nat) : PyData := if goodL l = true then .tuple (foundL l) else .none
def fEntryIn : DS := fun xs st Φ _ => ∃ l, xs = [dS (AL.S l)] ∧ okL l ∧ Φ (.d (entryL l)) st
theorem found_len (l : List Nat) : (foundL l).length ≤ l.length + 1 := by
  have h := TX.cut_len 32 l
  unfold foundL
  cases e : cut 32 l with
  | nil => simp
  | cons a b => rw [e] at h; simpa using h
theorem found_wd {l : List Nat} (h : okL l) : ∀ d ∈ foundL l, Wd d := by
  unfold foundL
  cases e : cut 32 l with
  | nil => intro d hd; cases hd
  | cons a b =>
    intro d hd
    have hm : ∀ p ∈ a :: b, okL p := fun p hp => ok_cut h (by rw [e]; exact hp)
    rcases List.mem_cons.mp hd with rfl | hd
    · show (AL.S a).length ≤ 100000
      rw [TX.S_len]; have := (hm a (List.mem_cons_self ..)).1; omega
    · obtain ⟨p, hp, rfl⟩ := List.mem_map.mp hd
      exact wd_thing (hm p (List.mem_cons_of_mem _ hp))
theorem fl_mono : ∀ (n : Nat) (d : PyData), Fl n d → Fl (n + 1) d
  | _, .none, _ => trivial
  | _, .bool _, _ => trivial
  | _, .int _, _ => trivial
  | n, .str z, h => by cases n <;> exact h
  | 0, .list _, h => False.elim h
  | 0, .tuple _, h => False.elim h
  | n + 1, .list ds, h => fun d hd => fl_mono n d (h d hd)
  | n + 1, .tuple ds, h => fun d hd => fl_mono n d (h d hd)
  | 0, .dict _, h => False.elim h
  | n + 1, .dict _, h => False.elim h
theorem found_fl {l : List Nat} (h : okL l) : Fl 2 (.tuple (foundL l)) := by
  show ∀ d ∈ foundL l, Fl 1 d
  unfold foundL
  cases e : cut 32 l with
  | nil => intro d hd; cases hd
  | cons a b =>
    intro d hd
    have hm : ∀ p ∈ a :: b, okL p := fun p hp => ok_cut h (by rw [e]; exact hp)
    rcases List.mem_cons.mp hd with rfl | hd
    · exact okZ_of (hm a (List.mem_cons_self ..))
    · obtain ⟨p, hp, rfl⟩ := List.mem_map.mp hd
      exact fl_thing (hm p (List.mem_cons_of_mem _ hp))
theorem form_len {z : Str} {ks : List Kd} (hf : formOf z = some ks) : ks.length ≤ 3 := by
  have : ∀ q ∈ forms, q.2.length ≤ 3 := by decide
  unfold formOf at hf
  cases hq : forms.find? (fun q => decide (q.1 = z)) with
  | none => rw [hq] at hf; cases hf
  | some q => rw [hq] at hf; cases hf; exact this q (List.mem_of_find?_eq_some hq)
theorem entry_len {ds : List PyData} (h : isEntry (.tuple ds) = true) : ds.length ≤ 4 := by
  cases ds with
  | nil => simp
  | cons d ds =>
    cases d with
    | str z =>
      cases hf : formOf z with
      | none => simp only [isEntry, hf] at h; cases h
      | some ks =>
        simp only [isEntry, hf, Bool.and_eq_true, decide_eq_true_eq] at h
        have := form_len hf
        simp only [List.length_cons]
        omega
    | _ => simp only [isEntry] at h; cases h
section
variable {P : Program} {w : World} {K : PySem.W.Frag} {mg : Str → Option Value} {base : Heap} {f d : Addr} {fd : FuncData} {a : Ads}
theorem sc_entry_in : FnScope ["row", "first", "words", "found", "word"] ["row"] (defScope (top 40)) := C8.fnScope_by (by decide +kernel)
theorem ok_entry_in (B : BT mg) (F : Fn K "entry_in" 40 f fd) (c_thing_in : DefD P w K mg base 1 "thing_in" fThingIn) (c_is_entry : DefD P w K mg base 3 "is_entry" fIsEntry) (c_shown_entry : DefD P w K mg base 2 "shown_entry" fShown) : FnOk P w K mg base (L2.CX P w) 4 f fd ["row"] (spD K fEntryIn) := by
  refine fn_D F sc_entry_in (fun xs st Φ Ψ h => ?_) (fun cdv A outer s H E hr => ⟨_, (pss_cons (ps_asg (x_split (K := K) (pv 0) (pa_cons pe_str pa_nil)) (pg_star (i := 1) rfl (pgs_cons (pg_name (i := 1) sc_entry_in.nd rfl (by first | exact Or.inl rfl | exact Or.inr rfl)) (pgs_star (pg_name (i := 2) sc_entry_in.nd rfl (by first | exact Or.inl rfl | exact Or.inr rfl)) pgs_nil))))
      (pss_cons (ps_set (i := 3) sc_entry_in.nd rfl (by first | exact Or.inl rfl | exact Or.inr rfl) (x_add (K := K) (pe_tup (pa_cons (pv 1) pa_nil)) (x_tuple (K := K) B (pe_lc (own := [("word", 4)]) (g := gName 4) (tt := tYes) rfl sc_entry_in.nd (pi_list (pv 2)) (blkOk_by (N := ["row", "first", "words", "found", "word"]) (sc := defScope (top 40)) (by decide +kernel)) (fun _ _ _ _ _ => pg_name (i := 4) sc_entry_in.nd rfl (by first | exact Or.inl rfl | exact Or.inr rfl)) (fun _ _ _ _ _ => pts_nil) (fun _ _ _ _ _ => (pe_f c_thing_in hr takes0 (pa_cons (pv 4) pa_nil)))))))
      (pss_one (ps_ret (pe_ifExp (PW.pt (pw_and (pt_val (pe_f c_is_entry hr takesD (pa_cons (pv 3) pa_nil))) (pw_and1 (t_eq (K := K) hr.units (pe_f c_shown_entry hr takesD (pa_cons (pv 3) pa_nil)) (pv 0))))) (pv 3) pe_non))))), fun b xs st Φ Ψ h hW => ?_⟩)
  · obtain ⟨x, rfl, _⟩ := h
    rfl
  · obtain ⟨l, rfl, hl, k⟩ := h
    have e0 : Ev K (tBM K "str" rSPLIT (tVar 0) (tCons (tC (.str " ")) tNil)) (startS ["row", "first", "words", "found", "word"] [dS (AL.S l)]) st (dL ((cut 32 l).map fun p => .str (AL.S p))) := by
      have := ev_bm (ev_var (sl := startS ["row", "first", "words", "found", "word"] [dS (AL.S l)]) (i := 0) rfl) (ea_cons (ev_s (z := AL.S [32])) ea_nil) (o_split (K := K) (st := st) (a := AL.S l) (b := AL.S [32]) rfl (by rw [TX.S_len]; have := hl.1; omega))
      rw [TX.split_cut (by decide), List.map_map] at this
      exact this
    cases hc : cut 32 l with
    | nil => exact absurd hc (TX.cut_ne _ _)
    | cons w0 ws =>
      rw [hc] at e0
      have hm : ∀ p ∈ w0 :: ws, okL p := fun p hp => ok_cut hl (by rw [hc]; exact hp)
      have hf : foundL l = .str (AL.S w0) :: ws.map thingL := by unfold foundL; rw [hc]
      have hwl : ws.length ≤ 20000 := by have := TX.cut_len 32 l; rw [hc] at this; simp at this; have := hl.1; omega
      refine ws_sq (ws_star1 (wx_of e0 ⟨.str (AL.S w0), ws.map fun p => .str (AL.S p), Or.inl rfl, ?_⟩))
      have el := ev_lcN (K := K) (te := tCalW (spD K fThingIn) [] (fun _ _ _ _ => False) (tCons (tVar 4) tNil)) (sl := ((startS ["row", "first", "words", "found", "word"] [dS (AL.S l)]).set 1 (some (.d (.str (AL.S w0))))).set 2 (some (dL (ws.map fun p => .str (AL.S p))))) (st := st) (j := 4) (vs := [4]) (xs := ws) (mk := fun p => dS (AL.S p)) (f := thingL)
        (by have := ei_list (K := K) (st := st) (sl := ((startS ["row", "first", "words", "found", "word"] [dS (AL.S l)]).set 1 (some (.d (.str (AL.S w0))))).set 2 (some (dL (ws.map fun p => .str (AL.S p))))) (ev_var (i := 2) rfl); rw [List.map_map] at this; exact this) (by omega) (by decide)
        fun p hp => ev_cal rnil (ea_cons (ev_var rfl) ea_nil) ⟨p, rfl, hm p (List.mem_cons_of_mem _ hp), rfl, rfl⟩
      refine ws_asgS (x := dT (foundL l)) ?_ ?_
      · rw [hf]
        exact ev_op (ev_tup (ds := [.str (AL.S w0)]) (ea_cons (ev_var rfl) ea_nil) (by show 1 ≤ 100000; decide)) (ev_cb (ea_cons el ea_nil) o_tupL) (o_addT (by simp; omega))
      · have v3 : Ev K (tVar 3) ((((startS ["row", "first", "words", "found", "word"] [dS (AL.S l)]).set 1 (some (.d (.str (AL.S w0))))).set 2 (some (dL (ws.map fun p => .str (AL.S p))))).set 3 (some (dT (foundL l)))) st (dT (foundL l)) := ev_var rfl
        refine ws_retE (x := .d (entryL l)) (ev_if (p := goodL l) (et_and (et_B (ev_cal rnil (ea_cons v3 ea_nil) ⟨_, 2, rfl, found_fl hl, by decide, fun ds h => by cases h; have := found_len l; have := hl.1; omega, rfl, rfl⟩)) fun hg => et_test (ev_op (ev_cal rnil (ea_cons v3 ea_nil) ⟨_, rfl, found_wd hl, by have := entry_len hg; omega, rfl, rfl⟩) (ev_var rfl) o_eqS)) (fun hg => ?_) fun hg => ?_) k
        · have e : entryL l = .tuple (foundL l) := by unfold entryL; rw [if_pos hg]
          rw [e]
          exact v3
        · have e : entryL l = .none := by unfold entryL; rw [if_neg (by rw [hg]; decide)]
          rw [e]
          exact ev_n
end
end K67

set_option Elab.async false
set_option linter.all false
set_option maxRecDepth 100000
set_option maxHeartbeats 4000000
namespace K67
open PySem PySem.Spec PyProof.Rows L2 AL
open TX (Fl okZ cut)
/-! ### reading rows -/
def badAt : List (List Nat) → Option Nat
  | [] => none
  | l :: r => if goodL l = true then (badAt r).map (· + 1) else some 0
theorem bad_none : ∀ {ls : List (List Nat)}, badAt ls = none → ∀ l ∈ ls, goodL l = true
  | [], _, l, h => by cases h
  | x :: r, e, l, h => by
    unfold badAt at e
    by_cases hx : goodL x = true
    · rw [if_pos hx] at e
      have e2 : badAt r = none := by cases hb : badAt r with
        | none => rfl
        | some i => rw [hb] at e; cases e
      rcases List.mem_cons.mp h with rfl | h
      · exact hx
      · exact bad_none e2 l h
    · rw [if_neg hx] at e; cases e
theorem bad_at : ∀ {ls : List (List Nat)} {i : Nat} {l : List Nat}, ls[i]? = some l → goodL l = false → (∀ j x, j < i → ls[j]? = some x → goodL x = true) → badAt ls = some i
  | x :: r, 0, l, e, h, _ => by
    cases e
    unfold badAt
    rw [if_neg (by rw [h]; decide)]
  | x :: r, i + 1, l, e, h, g => by
    have hx : goodL x = true := g 0 x (by omega) rfl
    have := bad_at (ls := r) (i := i) e h fun j y hj hy => g (j + 1) y (by omega) hy
    unfold badAt
    rw [if_pos hx, this]
    rfl
theorem bad_all : ∀ {ls : List (List Nat)}, (∀ (j : Nat) x, ls[j]? = some x → goodL x = true) → badAt ls = none
  | [], _ => rfl
  | x :: r, g => by
    unfold badAt
    rw [if_pos (g 0 x rfl), bad_all fun j y hy => g (j + 1) y hy]
    rfl
def rowsD (ls : List (List Nat)) : List PyData := ls.map fun l => .str (AL.S l)
def entsD (ls : List (List Nat)) : List PyData := ls.map fun l => .tuple (foundL l)
def nt (C : Addr) (i : Nat) : AE := ⟨.ref C, some [("row", dI i)]⟩
def okR (ls : List (List Nat)) : Prop := ls.length ≤ 20001 ∧ ∀ l ∈ ls, okL l
def fEntriesIn0 (C : Addr) : DS := fun xs st Φ Ψ => ∃ ls, xs = [dL (rowsD ls)] ∧ okR ls ∧ match badAt ls with
  | none => ∀ ex, Φ (dL (entsD ls)) (st ++ ex)
  | some i => ∀ ex, Ψ (nt C i) (st ++ ex)
def fEntriesIn (C : Addr) : DS := fun xs st Φ Ψ => ∃ ls, xs = [dL (rowsD ls)] ∧ okR ls ∧ match badAt ls with
  | none => Φ (dL (entsD ls)) st
  | some i => Ψ (nt C i) st
theorem nt_data (C : Addr) (i : Nat) : DataE (nt C i) := fun p hp => by
  rw [List.mem_singleton.mp hp]
  exact ⟨_, rfl⟩
section
variable {P : Program} {w : World} {K : PySem.W.Frag} {mg : Str → Option Value} {base : Heap} {f d C : Addr} {fd : FuncData} {a : Ads}
theorem sc_entries_in : FnScope ["rows", "found", "number", "row", "entry"] ["rows"] (defScope (top 41)) := C8.fnScope_by (by decide +kernel)
theorem sc_read_cut : FnScope ["text", "rows"] ["text"] (defScope (top 42)) := C8.fnScope_by (by decide +kernel)
theorem sc_read : FnScope ["text", "found", "rest"] ["text"] (defScope (top 43)) := C8.fnScope_by (by decide +kernel)
theorem ok_entries_in0 (B : BT mg) (F : Fn K "entries_in" 41 f fd) (c_entry_in : DefD P w K mg base 4 "entry_in" fEntryIn) (T_NoText : ExcD P w K mg base "NoText" C "row") : FnOk P w K mg base (L2.CX P w) 5 f fd ["rows"] (spD K (fEntriesIn0 C)) := by
  refine fn_D F sc_entries_in (fun xs st Φ Ψ h => ?_) (fun cdv A outer s H E hr => ⟨_, (pss_cons (ps_set (i := 1) sc_entries_in.nd rfl (by first | exact Or.inl rfl | exact Or.inr rfl) (pe_lst pa_nil))
      (pss_cons (ps_for (passes_of rfl) rfl (x_enum B (pv 0)) (pg_tup rfl (pgs_cons (pg_name (i := 2) sc_entries_in.nd rfl (by first | exact Or.inl rfl | exact Or.inr rfl)) (pgs_cons (pg_name (i := 3) sc_entries_in.nd rfl (by first | exact Or.inl rfl | exact Or.inr rfl)) pgs_nil))) (pss_cons (ps_set (i := 4) sc_entries_in.nd rfl (by first | exact Or.inl rfl | exact Or.inr rfl) (pe_f c_entry_in hr takesD (pa_cons (pv 3) pa_nil)))
      (pss_cons (ps_if (t_isN (pv 4) pe_non) (pss_one (ps_raiseC T_NoText hr takesD (pv 2))) pss_nil)
      (pss_one (ps_expr (x_app (K := K) (pv 1) (pa_cons (pv 4) pa_nil)))))))
      (pss_one (ps_ret (pv 1))))), fun b xs st Φ Ψ h hW => ?_⟩)
  · obtain ⟨x, rfl, _⟩ := h
    rfl
  · obtain ⟨ls, rfl, ⟨hlen, hl⟩, k⟩ := h
    refine ws_sq (ws_asg (wx_lst (xs := []) ea_nil (by decide) ?_))
    refine ws_sq (ws_for (wi_of (ei_enum (ea_cons (ev_var rfl) ea_nil)) ?_))
    refine ⟨fun i sl1 st1 => (∃ x2 x3 x4, sl1 = [some (dL (rowsD ls)), some (.o st.length), x2, x3, x4]) ∧ st1 = st ++ [.lst ((entsD (ls.take i)).map AV.d)] ∧ ∀ j x, j < i → ls[j]? = some x → goodL x = true, ⟨⟨none, none, none, rfl⟩, rfl, fun j x hj => absurd hj (Nat.not_lt_zero _)⟩, ?_, ?_⟩
    · rintro i x sl1 st1 hx ⟨⟨x2, x3, x4, rfl⟩, rfl, hg⟩
      rw [List.getElem?_map, enumD_get] at hx
      unfold rowsD at hx
      rw [List.getElem?_map] at hx
      cases hi : ls[i]? with
      | none => rw [hi] at hx; cases hx
      | some l =>
        rw [hi] at hx
        cases hx
        have hok := hl l (List.mem_of_getElem? hi)
        refine ⟨_, _, eg_tup (ds := [_, _]) (egs_cons eg_name (egs_cons eg_name egs_nil)) rfl, ?_⟩
        refine ws_asgS (x := .d (entryL l)) (ev_cal rnil (ea_cons (ev_var rfl) ea_nil) ⟨l, rfl, hok, rfl, rfl⟩) ?_
        refine ws_guard (et_test (ev_op (ev_var rfl) ev_n o_isN)) (fun hn => ?_) (fun hn => ?_)
        · have hbad : goodL l = false := by
            cases hgl : goodL l with
            | false => rfl
            | true =>
              unfold entryL at hn
              rw [if_pos hgl] at hn
              cases hn
          refine ws_raiseC hW (wx_of (ev_var rfl) ?_)
          have e := bad_at hi hbad hg
          rw [e] at k
          have := k [.lst ((entsD (ls.take i)).map AV.d)]
          simpa [nt] using this
        · have hgood : goodL l = true := by
            cases hgl : goodL l with
            | true => rfl
            | false =>
              unfold entryL at hn
              rw [if_neg (by rw [hgl]; decide)] at hn
              cases hn
          have ee : entryL l = .tuple (foundL l) := by unfold entryL; rw [if_pos hgood]
          have n1 : (st ++ [AO.lst ((entsD (ls.take i)).map AV.d)])[st.length]? = some (.lst ((entsD (ls.take i)).map AV.d)) := by simp
          refine ws_app (n := st.length) (ev_var rfl) (wx_of (ev_var rfl) ⟨_, n1, ?_, ⟨⟨_, _, _, rfl⟩, ?_, ?_⟩⟩) ⟨_, n1⟩
          · unfold entsD
            rw [List.length_map, List.length_map, List.length_take]
            omega
          · have et : ls.take (i + 1) = ls.take i ++ [l] := take_get hi
            rw [et, ee]
            simp [entsD]
          · intro j x hj hx
            by_cases h : j < i
            · exact hg j x h hx
            · have : j = i := by omega
              subst this
              rw [hi] at hx
              cases hx
              exact hgood
    · rintro sl1 st1 ⟨⟨x2, x3, x4, rfl⟩, rfl, hg⟩
      have hlen2 : ((enumD 0 (rowsD ls)).map AV.d).length = ls.length := by rw [List.length_map, enumD_len]; unfold rowsD; rw [List.length_map]
      rw [hlen2, List.take_length]
      rw [hlen2] at hg
      have e := bad_all (ls := ls) fun j x hx => hg j x (List.getElem?_eq_some_iff.mp hx).1 hx
      rw [e] at k
      refine ws_kill (i := st.length) (j := 1) (ds := entsD ls) rfl (by simp) ?_
      refine ws_retE (ev_var rfl) ?_
      have := k [.dead]
      simpa using this
theorem ok_entries_in (B : BT mg) (F : Fn K "entries_in" 41 f fd) (c_entry_in : DefD P w K mg base 4 "entry_in" fEntryIn) (T_NoText : ExcD P w K mg base "NoText" C "row") : FnOk P w K mg base (L2.CX P w) 5 f fd ["rows"] (spD K (fEntriesIn C)) :=
  gc_imp (fun xs st Φ Ψ ⟨ls, e, h, k⟩ => ⟨ls, e, h, by
    cases hb : badAt ls with
    | none =>
      rw [hb] at k
      exact fun ex => ⟨ex, rfl, ⟨_, rfl⟩, k⟩
    | some i =>
      rw [hb] at k
      exact fun ex => ⟨ex, rfl, nt_data C i, k⟩⟩) (ok_entries_in0 B F c_entry_in T_NoText)
end
end K67

set_option Elab.async false
set_option linter.all false
set_option maxRecDepth 100000
set_option maxHeartbeats 4000000
namespace K67
open PySem PySem.Spec PyProof.Rows L2 AL
open TX (Fl okZ cut)
theorem cutD_init (xs : List PyData) (y : PyData) : AL.cutD (xs ++ [y]) none (some (-1)) = xs := by
  unfold AL.cutD HT.sIx
  simp
  have e : (-1 + ((xs.length : Int) + 1)).toNat = xs.length := by omega
  rw [e]
  simp
theorem atI_last {α : Type} (xs : List α) (y : α) : atI (xs ++ [y]) (-1) = some y := by
  have h : ixN (xs ++ [y]).length (-1) = some xs.length := by
    unfold ixN
    rw [if_neg (by decide), List.length_append, List.length_singleton, if_pos (by omega)]
    congr 1
    omega
  unfold atI
  rw [h]
  simp
/-- what stands ahead of the last row, the last row -/
def ini (l : List Nat) : List (List Nat) := (cut 10 l).dropLast
def lst (l : List Nat) : List Nat := (cut 10 l).getLast (TX.cut_ne 10 l)
theorem rows_eq (l : List Nat) : cut 10 l = ini l ++ [lst l] := (List.dropLast_concat_getLast (TX.cut_ne 10 l)).symm
theorem ini_ok {l : List Nat} (h : okL l) : okR (ini l) ∧ okL (lst l) := by
  have h1 := TX.cut_len 10 l
  refine ⟨⟨?_, fun p hp => ok_cut h (by rw [rows_eq]; exact List.mem_append_left _ hp)⟩, ok_cut h (by rw [rows_eq]; simp)⟩
  rw [rows_eq] at h1
  simp at h1
  have := h.1
  omega
def rdCut (C : Addr) (x : PyData) (Φ : PyData → Prop) (Ψ : AE → Prop) : Prop := match x with
  | .str z => match badAt (ini z.cps.toList) with
    | none => Φ (.tuple [.list (entsD (ini z.cps.toList)), .str (AL.S (lst z.cps.toList))])
    | some i => Ψ (nt C i)
  | _ => Ψ (nt C 0)
def rd (C : Addr) (x : PyData) (Φ : PyData → Prop) (Ψ : AE → Prop) : Prop := match x with
  | .str z => match badAt (ini z.cps.toList) with
    | none => if lst z.cps.toList = [] then Φ (.list (entsD (ini z.cps.toList))) else Ψ (nt C (ini z.cps.toList).length)
    | some i => Ψ (nt C i)
  | _ => Ψ (nt C 0)
def okX : PyData → Prop
  | .str z => okL z.cps.toList
  | _ => True
def fReadCut (C : Addr) : DS := fun xs st Φ Ψ => ∃ x, xs = [.d x] ∧ okX x ∧ rdCut C x (fun y => Φ (.d y) st) (fun e => Ψ e st)
def fRead (C : Addr) : DS := fun xs st Φ Ψ => ∃ x, xs = [.d x] ∧ okX x ∧ rd C x (fun y => Φ (.d y) st) (fun e => Ψ e st)
section
variable {P : Program} {w : World} {K : PySem.W.Frag} {mg : Str → Option Value} {base : Heap} {f d C : Addr} {fd : FuncData} {a : Ads}
theorem ok_read_cut (B : BT mg) (F : Fn K "read_cut" 42 f fd) (c_entries_in : DefD P w K mg base 5 "entries_in" (fEntriesIn C)) (T_NoText : ExcD P w K mg base "NoText" C "row") : FnOk P w K mg base (L2.CX P w) 6 f fd ["text"] (spD K (fReadCut C)) := by
  refine fn_D F sc_read_cut (fun xs st Φ Ψ h => ?_) (fun cdv A outer s H E hr => ⟨_, (pss_cons (ps_if (pt_not (pt_val (x_is (K := K) B (pv 0) (ty_str B)))) (pss_one (ps_raiseC T_NoText hr takesD pe_int)) pss_nil)
      (pss_cons (ps_set (i := 1) sc_read_cut.nd rfl (by first | exact Or.inl rfl | exact Or.inr rfl) (x_split (K := K) (pv 0) (pa_cons pe_str pa_nil)))
      (pss_one (ps_ret (pe_tup (pa_cons (pe_f c_entries_in hr takesD (pa_cons (x_sl (K := K) (pv 1) po_none (po_some (x_neg pe_int))) pa_nil)) (pa_cons (x_ix (K := K) (pv 1) (x_neg pe_int)) pa_nil))))))), fun b xs st Φ Ψ h hW => ?_⟩)
  · obtain ⟨x, rfl, _⟩ := h
    rfl
  · obtain ⟨x, rfl, hx, k⟩ := h
    cases x with
    | str z =>
      have hz : z = AL.S z.cps.toList := (TX.S_tl z).symm
      generalize hl : z.cps.toList = l at hz k
      have hok : okL l := by rw [← hl]; exact hx
      subst hz
      have k : rdCut C (.str (AL.S l)) (fun y => Φ (.d y) st) (fun e => Ψ e st) := by unfold rdCut; exact k
      obtain ⟨h1, h2⟩ := ini_ok hok
      refine ws_guard (et_not (et_B (ev_isS (x := .str (AL.S l)) (ev_var rfl)))) (fun hp => by cases hp) (fun _ => ?_)
      have es : Ev K (tBM K "str" rSPLIT (tVar 0) (tCons (tC (.str "\n")) tNil)) (startS ["text", "rows"] [dS (AL.S l)]) st (dL (rowsD (ini l) ++ [.str (AL.S (lst l))])) := by
        have := ev_bm (ev_var (sl := startS ["text", "rows"] [dS (AL.S l)]) (i := 0) rfl) (ea_cons (ev_s (z := AL.S [10])) ea_nil) (o_split (K := K) (st := st) (a := AL.S l) (b := AL.S [10]) rfl (by rw [TX.S_len]; have := hok.1; omega))
        rw [TX.split_cut (by decide), List.map_map, rows_eq, List.map_append] at this
        exact this
      refine ws_asgS es ?_
      have v1 : Ev K (tVar 1) ((startS ["text", "rows"] [dS (AL.S l)]).set 1 (some (dL (rowsD (ini l) ++ [.str (AL.S (lst l))])))) st (dL (rowsD (ini l) ++ [.str (AL.S (lst l))])) := ev_var rfl
      have e1 := ev_sl (r := rSL K) v1 eo_none (eo_some (ev_neg (ev_i (i := 1)))) o_slL
      have e0 : (-1 : Int) = -1 := rfl
      rw [cutD_init] at e1
      refine ws_ret (wx_tup (wa_cons (wx_cal hW rnil (wa_of (ea_cons e1 ea_nil) ⟨ini l, rfl, h1, ?_⟩))))
      unfold rdCut at k
      simp only at k
      cases hb : badAt (ini l) with
      | none =>
        rw [hb] at k
        exact wa_cons (wx_of (ev_op v1 (ev_neg (ev_i (i := 1))) (o_ixL (atI_last _ _))) (wa_nil ⟨[_, _], rfl, Nat.le_of_ble_eq_true rfl, k⟩))
      | some i =>
        rw [hb] at k
        exact k
    | _ => exact ws_guard (et_not (et_B (ev_isS (ev_var rfl)))) (fun _ => ws_raiseC hW (wx_of ev_i k)) (fun hp => by cases hp)
theorem ok_read (B : BT mg) (F : Fn K "read" 43 f fd) (c_read_cut : DefD P w K mg base 6 "read_cut" (fReadCut C)) (T_NoText : ExcD P w K mg base "NoText" C "row") : FnOk P w K mg base (L2.CX P w) 7 f fd ["text"] (spD K (fRead C)) := by
  refine fn_D F sc_read (fun xs st Φ Ψ h => ?_) (fun cdv A outer s H E hr => ⟨_, (pss_cons (ps_asg (pe_f c_read_cut hr takesD (pa_cons (pv 0) pa_nil)) (pg_tup rfl (pgs_cons (pg_name (i := 1) sc_read.nd rfl (by first | exact Or.inl rfl | exact Or.inr rfl)) (pgs_cons (pg_name (i := 2) sc_read.nd rfl (by first | exact Or.inl rfl | exact Or.inr rfl)) pgs_nil))))
      (pss_cons (ps_if (t_ne (K := K) hr.units (pv 2) pe_str) (pss_one (ps_raiseC T_NoText hr takesD (x_len (K := K) B (pv 1)))) pss_nil)
      (pss_one (ps_ret (pv 1))))), fun b xs st Φ Ψ h hW => ?_⟩)
  · obtain ⟨x, rfl, _⟩ := h
    rfl
  · obtain ⟨x, rfl, hx, k⟩ := h
    refine ws_sq (ws_asgG (wx_cal hW rnil (wa_of (ea_cons (ev_var rfl) ea_nil) ⟨x, rfl, hx, ?_⟩)))
    cases x with
    | str z =>
      unfold rd at k
      unfold rdCut
      simp only at k ⊢
      cases hb : badAt (ini z.cps.toList) with
      | some i => rw [hb] at k; exact k
      | none =>
        rw [hb] at k
        simp only at k ⊢
        refine ⟨_, _, eg_tup (ds := [_, _]) (egs_cons eg_name (egs_cons eg_name egs_nil)) rfl, ?_⟩
        refine ws_guard (et_test (ev_op (ev_var rfl) ev_s (o_neS (y := AL.S [])))) (fun hp => ?_) (fun hp => ?_)
        · have hne : ¬ lst z.cps.toList = [] := by
            intro e
            rw [e] at hp
            simp at hp
          rw [if_neg hne] at k
          refine ws_raiseC hW (wx_of (ev_lenL (ev_var rfl)) ?_)
          have e : (entsD (ini z.cps.toList)).length = (ini z.cps.toList).length := by unfold entsD; rw [List.length_map]
          rw [e]
          exact k
        · have he : lst z.cps.toList = [] := by simpa [S_inj] using hp
          rw [if_pos he] at k
          exact ws_retE (ev_var rfl) k
    | _ => exact k
end
end K67

set_option Elab.async false
set_option linter.all false
set_option maxRecDepth 100000
set_option maxHeartbeats 4000000
namespace K67
open PySem PySem.Spec PyProof.Rows L2 AL
open TX (Fl okZ cut)
/-! ### the room -/
def RmO (a b : Int) : AO := .lst [dI a, dI b]
def fTake : DS := fun xs st Φ _ => ∃ n a b m, xs = [.o n, dI m] ∧ st[n]? = some (RmO a b) ∧ (0 < m ∧ m < 1000000) ∧ ∀ r a' b', 0 ≤ r → r < m → Φ (dI r) (st.set n (RmO a' b'))
def spRoom (K : PySem.W.Frag) : Sp := fun vs H Q _ => ∃ (c : Cf) (a : Addr) (ns : List Int) (k : Int), vs = [.ref a, .int k] ∧ c.hp = H ∧ SR K c ∧ Scr K c a ns ∧ (0 ≤ k ∧ k < 1000) ∧ ∀ v c' x y, Tr c c' → SR K c' → Rv K c' v (.o c.st.length) → c'.st = c.st ++ [RmO x y] → Q v c'.hp
theorem set_get {st : Sto} {n : Nat} {o o' : AO} (h : st[n]? = some o) : (st.set n o')[n]? = some o' := List.getElem?_set_self (List.getElem?_eq_some_iff.mp h).1
theorem run_ws {K : PySem.W.Frag} {c : Cf} {t : TS} {N : List Str} {vs : List V} {xs : List AV} {e : DE} (W : Ws K c t (startS N xs) c.st e) (s0 : SR K c) (r : Rvs K c vs xs) (D : Ends) (d : DOk K c D e) : t D (L2.start N vs) c.hp :=
  W c (Tr.refl c) D d c _ rfl (Tr.refl c) s0 (ss_start r)
section
variable {P : Program} {w : World} {K : PySem.W.Frag} {mg : Str → Option Value} {base : Heap} {f d C : Addr} {fd : FuncData} {a : Ads}
theorem sc_law_room : FnScope ["_law_script", "_law_k", "_law_cell", "_law_left"] ["_law_script", "_law_k"] (defScope (top 45)) := C8.fnScope_by (by decide +kernel)
theorem sc_law_take : FnScope ["_law_room_here", "_law_many", "_law_found"] ["_law_room_here", "_law_many"] (defScope (top 46)) := C8.fnScope_by (by decide +kernel)
theorem sc_law_word_of : FnScope ["_law_thing"] ["_law_thing"] (defScope (top 47)) := C8.fnScope_by (by decide +kernel)
theorem sc_law_line_of : FnScope ["_law_entry_here", "_law_thing"] ["_law_entry_here"] (defScope (top 48)) := C8.fnScope_by (by decide +kernel)
theorem ok_law_room (B : BT mg) (F : Fn K "_law_room" 45 f fd) : FnOk P w K mg base (L2.CX P w) 1 f fd ["_law_script", "_law_k"] (spRoom K) := by
  refine F.ok sc_law_room (fun vs H Q E h => ?_) (fun cdv A outer s H vs Q E hr h => ?_)
  · obtain ⟨_, _, _, _, rfl, _⟩ := h
    rfl
  · obtain ⟨c, a, ns, n, rfl, rfl, s0, hs, ⟨h0, h1⟩, k⟩ := h
    refine ⟨_, (pss_cons (ps_set (i := 2) sc_law_room.nd rfl (by first | exact Or.inl rfl | exact Or.inr rfl) pe_int)
      (pss_cons (ps_if (t_lt (pv 1) (x_len (K := K) B (pv 0))) (pss_one (ps_set (i := 2) sc_law_room.nd rfl (by first | exact Or.inl rfl | exact Or.inr rfl) (x_ix (K := K) (pv 0) (pv 1)))) pss_nil)
      (pss_cons (ps_set (i := 3) sc_law_room.nd rfl (by first | exact Or.inl rfl | exact Or.inr rfl) pe_int)
      (pss_cons (ps_if (t_ge (pv 2) (x_pow pe_int pe_int)) (pss_one (ps_set (i := 3) sc_law_room.nd rfl (by first | exact Or.inl rfl | exact Or.inr rfl) (pv 2))) pss_nil)
      (pss_one (ps_ret (pe_lst (pa_cons (pv 3) (pa_cons (x_mod (x_mul (x_add (K := K) (x_add (K := K) (x_mod (pv 2) pe_int) (x_mul (x_mul pe_int (pv 1)) (pv 1))) pe_int) pe_int) pe_int) pa_nil))))))))), ?_⟩
    let e : DE := { nx := fun _ _ => False, rt := fun x st' => x = .o c.st.length ∧ ∃ x y, st' = c.st ++ [RmO x y] }
    have fin : ∀ (cell : Int), Ws K c (tSeq (tAsg (tC (.int 0)) (gName 3)) (tSeq (tIfS (tTest (tOp (rI0 fun i j => .bl (decide (j ≤ i))) (tVar 2) (tOp rPOW (tC (.int 10)) (tC (.int 18))))) (tAsg (tVar 2) (gName 3)) tNext) (tRet (tLst (tCons (tVar 3) (tCons (tOp rMOD (tOp rMUL (tOp (rADD K) (tOp (rADD K) (tOp rMOD (tVar 2) (tC (.int 2147483629))) (tOp rMUL (tOp rMUL (tC (.int 104729)) (tVar 1)) (tVar 1))) (tC (.int 7))) (tC (.int 48271))) (tC (.int 2147483647))) tNil))))))
        ((startS ["_law_script", "_law_k", "_law_cell", "_law_left"] [.raw (.ref a), dI n]).set 2 (some (dI cell))) c.st e := fun cell => by
      refine ws_asgS ev_i ?_
      have fin2 : ∀ left : Int, Ws K c (tRet (tLst (tCons (tVar 3) (tCons (tOp rMOD (tOp rMUL (tOp (rADD K) (tOp (rADD K) (tOp rMOD (tVar 2) (tC (.int 2147483629))) (tOp rMUL (tOp rMUL (tC (.int 104729)) (tVar 1)) (tVar 1))) (tC (.int 7))) (tC (.int 48271))) (tC (.int 2147483647))) tNil))))
          [some (.raw (.ref a)), some (dI n), some (dI cell), some (dI left)] c.st e := fun left => by
        refine ws_ret (wx_lst (ea_cons (ev_var rfl) (ea_cons (ev_op (ev_op (ev_op (ev_op (ev_op (ev_var rfl) ev_i (o_IC (by decide))) (ev_op (ev_op ev_i (ev_var rfl) (o_mulI (Or.inl (by decide)))) (ev_var rfl) (o_mulI (Or.inr (by omega)))) o_addI) ev_i o_addI) ev_i (o_mulI (Or.inr (by decide)))) ev_i (o_IC (by decide))) ea_nil)) (Nat.le_of_ble_eq_true rfl) ⟨rfl, _, _, rfl⟩)
      have et : Et K (tTest (tOp (rI0 fun i j => .bl (decide (j ≤ i))) (tVar 2) (tOp rPOW (tC (.int 10)) (tC (.int 18))))) [some (.raw (.ref a)), some (dI n), some (dI cell), some (dI 0)] c.st (decide ((10:Int) ^ (18:Int).toNat ≤ cell)) := et_test (ev_op (ev_var rfl) (ev_op ev_i ev_i (o_IC ⟨by decide, by decide, by decide⟩)) o_Ib)
      exact ws_sq (ws_ifE et (fun _ => ws_asgE (ev_var rfl) (fin2 cell)) fun _ => ws_next (fin2 0))
    refine run_ws (e := e) (xs := [.raw (.ref a), dI n]) ?_ s0 (.cons rfl (.cons (.int _) .nil)) _ ⟨fun c' σ sl t' s' S' k => k.elim, fun c' v x t' s' r ⟨e1, x1, y1, e2⟩ => k v c' x1 y1 t' s' (e1 ▸ r) e2, fun c' σ sl _ _ _ k => k.elim, fun c' σ sl _ _ _ k => k.elim⟩
    · refine ws_asgS ev_i ?_
      refine ws_sq (ws_if (wt_test (wx_op (wx_of (ev_var rfl) (wx_lenR hs rfl ⟨_, o_Ib, _, rfl, ?_⟩)))))
      by_cases hp : n < ns.length
      · rw [if_pos (decide_eq_true hp)]
        have hat : atI ns n = some ns[n.toNat] := by
          unfold atI ixN
          rw [if_pos h0, if_pos hp]
          simp
        exact ws_asg (wx_ixR hs rfl (ev_var rfl) hat (fin _))
      · rw [if_neg (by simpa using hp)]
        exact ws_next (fin 0)
theorem ok_law_take (B : BT mg) (F : Fn K "_law_take" 46 f fd) : FnOk P w K mg base (L2.CX P w) 1 f fd ["_law_room_here", "_law_many"] (spD K fTake) := by
  refine fn_D F sc_law_take (fun xs st Φ Ψ h => ?_) (fun cdv A outer s H E hr => ⟨_, (pss_cons (ps_if (t_gt (x_ix (K := K) (pv 0) pe_int) pe_int) (pss_cons (ps_set (i := 2) sc_law_take.nd rfl (by first | exact Or.inl rfl | exact Or.inr rfl) (x_mod (x_ix (K := K) (pv 0) pe_int) (pv 1)))
      (pss_cons (ps_asg (x_fdiv (x_ix (K := K) (pv 0) pe_int) (pv 1)) (pg_sub (pv 0) pe_int set_list))
      (pss_one (ps_ret (pv 2))))) pss_nil)
      (pss_cons (ps_asg (x_mod (x_add (K := K) (x_mul (x_ix (K := K) (pv 0) pe_int) pe_int) pe_int) pe_int) (pg_sub (pv 0) pe_int set_list))
      (pss_cons (ps_set (i := 2) sc_law_take.nd rfl (by first | exact Or.inl rfl | exact Or.inr rfl) (x_fdiv (x_mod (x_mul (x_ix (K := K) (pv 0) pe_int) (x_ix (K := K) (pv 0) pe_int)) pe_int) pe_int))
      (pss_cons (ps_if (t_gt (pv 1) (x_pow pe_int pe_int)) (pss_cons (ps_asg (x_mod (x_add (K := K) (x_mul (x_ix (K := K) (pv 0) pe_int) pe_int) pe_int) pe_int) (pg_sub (pv 0) pe_int set_list))
      (pss_one (ps_set (i := 2) sc_law_take.nd rfl (by first | exact Or.inl rfl | exact Or.inr rfl) (x_add (K := K) (x_mul (pv 2) pe_int) (x_mod (x_mul (x_ix (K := K) (pv 0) pe_int) (x_ix (K := K) (pv 0) pe_int)) pe_int))))) pss_nil)
      (pss_one (ps_ret (x_mod (pv 2) (pv 1)))))))), fun b xs st Φ Ψ h hW => ?_⟩)
  · obtain ⟨_, _, _, _, rfl, _⟩ := h
    rfl
  · obtain ⟨n, x, y, m, rfl, hn, ⟨h0, h1⟩, k⟩ := h
    have ex : ∀ sl', sl'[0]? = some (some (AV.o n)) → Ev K (tOp (rIx K) (tVar 0) (tC (.int 0))) sl' st (dI x) := fun sl' h => ev_op (ev_var h) ev_i (o_ixO hn rfl)
    have ey : ∀ (sl' : Sl) (st' : Sto) (x' y' : Int), sl'[0]? = some (some (AV.o n)) → st'[n]? = some (RmO x' y') → Ev K (tOp (rIx K) (tVar 0) (tC (.int 1))) sl' st' (dI y') := fun sl' st' x' y' h hn => ev_op (ev_var h) ev_i (o_ixO hn rfl)
    refine ws_guard (et_test (ev_op (ex _ rfl) ev_i o_Ib)) (fun _ => ?_) (fun _ => ?_)
    · refine ws_asgS (ev_op (ex _ rfl) (ev_var rfl) (o_IC h0)) ?_
      refine ws_sq (ws_setL (wx_of (ev_op (ex _ rfl) (ev_var rfl) (o_IC ⟨h0, by omega⟩)) ⟨0, 0, _, ev_var rfl, ev_i, hn, rfl, ?_⟩))
      exact ws_retE (ev_var rfl) (k _ _ y (Int.emod_nonneg _ (by omega)) (Int.emod_lt_of_pos _ h0))
    · refine ws_sq (ws_setL (wx_of (ev_op (ev_op (ev_op (ey _ _ x y rfl hn) ev_i (o_mulI (Or.inr (by decide)))) ev_i o_addI) ev_i (o_IC (by decide))) ⟨1, 1, _, ev_var rfl, ev_i, hn, rfl, ?_⟩))
      generalize hy : (y * 48271 + 39373) % 2147483647 = y1
      have b1 : 0 ≤ y1 ∧ y1 < 2147483647 := by omega
      have hn1 : (st.set n (RmO x y1))[n]? = some (RmO x y1) := set_get hn
      refine ws_asgS (ev_op (ev_op (ev_op (ey _ _ x y1 rfl hn1) (ey _ _ x y1 rfl hn1) (o_mulI (Or.inl (by omega)))) ev_i (o_IC (by decide))) ev_i (o_IC ⟨by decide, by decide⟩)) ?_
      have et : Et K (tTest (tOp (rI0 fun i j => .bl (decide (j < i))) (tVar 1) (tOp rPOW (tC (.int 10)) (tC (.int 6))))) [some (.o n), some (dI m), some (dI (y1 * y1 % 2147483629 / 16))] (st.set n (RmO x y1)) (decide ((10:Int) ^ (6:Int).toNat < m)) := et_test (ev_op (ev_var rfl) (ev_op ev_i ev_i (o_IC ⟨by decide, by decide, by decide⟩)) o_Ib)
      refine ws_sq (ws_ifE et (fun hp => ?_) fun _ => ws_next ?_)
      · have := of_decide_eq_true hp
        have e : (10:Int) ^ (6:Int).toNat = 1000000 := by decide
        omega
      · exact ws_retE (ev_op (ev_var rfl) (ev_var rfl) (o_IC h0)) (k _ _ _ (Int.emod_nonneg _ (by omega)) (Int.emod_lt_of_pos _ h0))
theorem ok_law_word_of (B : BT mg) (F : Fn K "_law_word_of" 47 f fd) : FnOk P w K mg base (L2.CX P w) 1 f fd ["_law_thing"] (spD K fWordOf) := by
  refine fn_D F sc_law_word_of (fun xs st Φ Ψ h => ?_) (fun cdv A outer s H E hr => ⟨_, (pss_cons (ps_if (t_isN (pv 0) pe_non) (pss_one (ps_ret pe_str)) pss_nil)
      (pss_one (ps_ret (pe_ifExp (pt_val (x_is (K := K) B (pv 0) (ty_tuple B))) (x_add (K := K) pe_str (x_join (K := K) pe_str (pa_cons (pv 0) pa_nil))) (x_str B (pv 0)))))), fun b xs st Φ Ψ h hW => ?_⟩)
  · obtain ⟨x, rfl, _⟩ := h
    rfl
  · obtain ⟨x, rfl, hx, k⟩ := h
    have t0 : Et K (tTest (tOp rIsN (tVar 0) (tC .non))) (startS ["_law_thing"] [.d x]) st (AL.isNone x) := et_test (ev_op (ev_var rfl) ev_n o_isN)
    have t1 : Et K (tB (tCB (rIs K) (tCons (tVar 0) (tCons (tC (.ty "tuple")) tNil)))) (startS ["_law_thing"] [.d x]) st (isTupD x) := et_B (ev_isT (ev_var rfl))
    cases x with
    | none => exact ws_guard t0 (fun _ => ws_retE ev_s k) (fun hp => by cases hp)
    | int i => exact ws_guard t0 (fun hp => by cases hp) (fun _ => ws_retE (ev_if t1 (fun h => by cases h) fun _ => ev_cb (ea_cons (ev_var rfl) ea_nil) (o_strsI hx)) k)
    | str z => exact ws_guard t0 (fun hp => by cases hp) (fun _ => ws_retE (ev_if t1 (fun h => by cases h) fun _ => ev_cb (ea_cons (ev_var rfl) ea_nil) o_strsS) k)
    | tuple ds =>
      obtain ⟨h1, h2⟩ := hx
      have es := strs_of h1
      have hv : Ev K (tVar 0) (startS ["_law_thing"] [.d (.tuple ds)]) st (dT ((ds.map strOf).map PyData.str)) := by rw [← es]; exact ev_var rfl
      have hs : ((ds.map strOf).map (·.length)).sum + (ds.map strOf).length * 1 ≤ 100000 := by
        rw [List.map_map, List.length_map, Nat.mul_one]; exact h2
      have hj := join_le [47] (ds.map strOf)
      exact ws_guard t0 (fun hp => by cases hp) (fun _ => ws_retE (ev_if t1 (fun _ => ev_op ev_s (ev_bm ev_s (ea_cons hv ea_nil) (o_joinT (a := AL.S [47]) (by show _ + _ * (AL.S [47]).length ≤ _; rw [TX.S_len]; exact Nat.le_trans hs (by decide)))) (o_addS (x := AL.S [47]) (by rw [TX.S_len]; simp only [List.length_cons, List.length_nil] at hj ⊢; omega))) fun h => by cases h) k)
    | bool _ => exact hx.elim
    | list _ => exact hx.elim
    | dict _ => exact hx.elim
theorem ok_law_line_of (B : BT mg) (F : Fn K "_law_line_of" 48 f fd) (c__law_word_of : DefD P w K mg base 1 "_law_word_of" fWordOf) : FnOk P w K mg base (L2.CX P w) 2 f fd ["_law_entry_here"] (spD K fShown) := by
  refine fn_D F sc_law_line_of (fun xs st Φ Ψ h => ?_) (fun cdv A outer s H E hr => ⟨_, (pss_one (ps_ret (x_join (K := K) pe_str (pa_cons (pe_lc (own := [("_law_thing", 1)]) (g := gName 1) (tt := tYes) rfl sc_law_line_of.nd (pi_tup (pv 0)) (blkOk_by (N := ["_law_entry_here", "_law_thing"]) (sc := defScope (top 48)) (by decide +kernel)) (fun _ _ _ _ _ => pg_name (i := 1) sc_law_line_of.nd rfl (by first | exact Or.inl rfl | exact Or.inr rfl)) (fun _ _ _ _ _ => pts_nil) (fun _ _ _ _ _ => (pe_f c__law_word_of hr takes0 (pa_cons (pv 1) pa_nil)))) pa_nil)))), fun b xs st Φ Ψ h hW => ?_⟩)
  · obtain ⟨x, rfl, _⟩ := h
    rfl
  · obtain ⟨ds, rfl, hx, hl, k⟩ := h
    have el := ev_lcN (K := K) (te := tCalW (spD K fWordOf) [] (fun _ _ _ _ => False) (tCons (tVar 1) tNil)) (sl := startS ["_law_entry_here", "_law_thing"] [dT ds]) (st := st) (j := 1) (vs := [1]) (mk := AV.d) (f := fun d => .str (wordOf d)) (ei_tup (ds := ds) (ev_var (i := 0) rfl)) (by omega) (by decide) fun d hd => ev_cal rnil (ea_cons (ev_var rfl) ea_nil) ⟨d, rfl, hx d hd, rfl, rfl⟩
    have e2 : (ds.map fun d => PyData.str (wordOf d)) = (ds.map wordOf).map PyData.str := by rw [List.map_map]; rfl
    rw [e2] at el
    have hb : ((ds.map wordOf).map (·.length)).sum ≤ 10 * 200000 := by
      have g : ∀ l : List PyData, (∀ d ∈ l, Wd d) → ((l.map wordOf).map (·.length)).sum ≤ l.length * 200000 := by
        intro l
        induction l with
        | nil => intro _; simp
        | cons d l ih =>
          intro h
          have h1 := wd_len (h d (List.mem_cons_self ..))
          have h2 := ih fun x hx => h x (List.mem_cons_of_mem _ hx)
          simp only [List.map_cons, List.sum_cons, List.length_cons] at h2 ⊢
          omega
      exact Nat.le_trans (g ds hx) (Nat.mul_le_mul_right _ hl)
    have hb2 : ((ds.map wordOf).map (·.length)).sum + ds.length * 1 ≤ 10000000 := by
      rw [Nat.mul_one]
      exact Nat.le_trans (Nat.add_le_add hb hl) (by decide)
    exact ws_retE (ev_bm ev_s (ea_cons el ea_nil) (o_joinL (a := AL.S [32]) (by rw [TX.S_len, List.length_map]; exact hb2))) k
end
end K67

set_option Elab.async false
set_option linter.all false
set_option maxRecDepth 100000
set_option maxHeartbeats 4000000
namespace K67
open PySem PySem.Spec PyProof.Rows L2 AL
open TX (Fl okZ cut)
/-! ### short texts -/
def sm (n : Nat) (l : List Nat) : Prop := l.length ≤ n ∧ ∀ c ∈ l, c < 128
theorem sm_mono {n m : Nat} {l : List Nat} (h : sm n l) (k : n ≤ m) : sm m l := ⟨Nat.le_trans h.1 k, h.2⟩
theorem sm_app {n m : Nat} {a b : List Nat} (h : sm n a) (k : sm m b) : sm (n + m) (a ++ b) := ⟨by rw [List.length_append]; have := h.1; have := k.1; omega, fun c hc => by
  rcases List.mem_append.mp hc with q | q
  · exact h.2 c q
  · exact k.2 c q⟩
theorem sm_take {n : Nat} {a : List Nat} (i : Nat) (h : sm n a) : sm n (a.take i) := ⟨by rw [List.length_take]; have := h.1; omega, fun c hc => h.2 c (List.mem_of_mem_take hc)⟩
theorem sm_drop {n : Nat} {a : List Nat} (i : Nat) (h : sm n a) : sm n (a.drop i) := ⟨by rw [List.length_drop]; have := h.1; omega, fun c hc => h.2 c (List.mem_of_mem_drop hc)⟩
theorem joinL_mem {s : List Nat} : ∀ {ps : List (List Nat)} {c : Nat}, c ∈ TL.joinL s ps → c ∈ s ∨ ∃ p ∈ ps, c ∈ p
  | [], c, h => by simp [TL.joinL] at h
  | [p], c, h => Or.inr ⟨p, List.mem_singleton.mpr rfl, by simpa [TL.joinL] using h⟩
  | p :: q :: r, c, h => by
    simp only [TL.joinL, List.mem_append] at h
    rcases h with h | h | h
    · exact Or.inr ⟨p, List.mem_cons_self .., h⟩
    · exact Or.inl h
    · rcases joinL_mem h with h | ⟨p', hp, h⟩
      · exact Or.inl h
      · exact Or.inr ⟨p', List.mem_cons_of_mem _ hp, h⟩
theorem sm_join {s : List Nat} {ps : List (List Nat)} {n m k : Nat} (hs : sm k s) (h : ∀ p ∈ ps, ∀ c ∈ p, c < 128) (hn : (ps.map List.length).sum + ps.length * k ≤ m) : sm m (TL.joinL s ps) := ⟨by
  have h1 := TX.joinL_len s ps
  have h2 : ps.length * s.length ≤ ps.length * k := Nat.mul_le_mul_left _ hs.1
  omega, fun c hc => by
  rcases joinL_mem hc with q | ⟨p, hp, q⟩
  · exact hs.2 c q
  · exact h p hp c q⟩
theorem sum_le {ps : List (List Nat)} {n : Nat} (h : ∀ p ∈ ps, p.length ≤ n) : (ps.map List.length).sum ≤ ps.length * n := by
  induction ps with
  | nil => simp
  | cons p ps ih =>
    have h1 := h p (List.mem_cons_self ..)
    have h2 := ih fun q hq => h q (List.mem_cons_of_mem _ hq)
    simp only [List.map_cons, List.sum_cons, List.length_cons, Nat.add_mul, Nat.one_mul]
    omega
/-! ### what is drawn -/
def SHORT : List (List Nat) := [[97], [98, 98], [97, 98, 99, 100, 101, 102, 103, 104]]
def wsD (ws : List (List Nat)) : List PyData := ws.map fun l => .str (AL.S l)
def fPath : DS := fun xs st Φ _ => ∃ n a b, xs = [.o n] ∧ st[n]? = some (RmO a b) ∧ ∀ ws a' b', ws.length ≤ 5 → (∀ l ∈ ws, l ∈ SHORT) → Φ (dT (wsD ws)) (st.set n (RmO a' b'))
/-- what an entry's thing is, by its form -/
def Ar (k : Kd) (d : PyData) : Prop := Wd d ∧ k.ok d = true ∧ ∃ l, wordOf d = AL.S l ∧ sm 60 l ∧ thingL l = d ∧ 32 ∉ l ∧ 10 ∉ l
/-- an entry whose line is read as the entry -/
def Gd (ds : List PyData) : Prop := ds.length ≤ 4 ∧ (∀ d ∈ ds, Wd d) ∧ ∃ l, shownE ds = AL.S l ∧ sm 243 l ∧ 10 ∉ l ∧ foundL l = ds ∧ goodL l = true
def fEntry : DS := fun xs st Φ _ => ∃ n a b, xs = [.o n] ∧ st[n]? = some (RmO a b) ∧ ∀ ds a' b', Gd ds → Φ (dT ds) (st.set n (RmO a' b'))
theorem thing_path {r : List Nat} (hr : r ≠ []) : thingL (47 :: r) = .tuple (wsD (cut 47 r)) := by
  unfold thingL
  rw [if_neg (by simp), if_pos (by rfl), if_neg (by simpa using hr)]
  rfl
theorem short_sm : ∀ l ∈ SHORT, sm 8 l := by unfold sm; decide
theorem short_free : ∀ l ∈ SHORT, l ≠ [] ∧ 47 ∉ l ∧ 32 ∉ l ∧ 10 ∉ l := by decide
theorem short_word : ∀ l ∈ SHORT, isWord (.str (AL.S l)) = true := by decide +kernel
theorem ar_path {ws : List (List Nat)} (h1 : ws.length ≤ 5) (h3 : ∀ l ∈ ws, l ∈ SHORT) : Ar .p (.tuple (wsD ws)) := by
  have h2 : ∀ l ∈ ws, sm 8 l := fun l hl => short_sm l (h3 l hl)
  have e : (wsD ws).map strOf = ws.map AL.S := by unfold wsD; rw [List.map_map]; rfl
  have hs := sum_le (n := 8) fun l hl => (h2 l hl).1
  have free : ∀ c, c ≠ 47 → (∀ l ∈ SHORT, c ∉ l) → c ∉ [47] ++ TL.joinL [47] ws := fun c hc hf hm => by
    rcases List.mem_append.mp hm with h | h
    · exact hc (List.mem_singleton.mp h)
    · rcases joinL_mem h with h | ⟨p, hp, h⟩
      · exact hc (List.mem_singleton.mp h)
      · exact hf p (h3 p hp) h
  refine ⟨⟨fun d hd => ?_, ?_⟩, ?_, [47] ++ TL.joinL [47] ws, ?_, ?_, ?_, free 32 (by decide) fun l hl => (short_free l hl).2.2.1, free 10 (by decide) fun l hl => (short_free l hl).2.2.2⟩
  · unfold wsD at hd
    obtain ⟨l, _, rfl⟩ := List.mem_map.mp hd
    exact ⟨_, rfl⟩
  · have : (wsD ws).map (fun d => (strOf d).length) = ws.map List.length := by
      unfold wsD
      rw [List.map_map]
      exact List.map_congr_left fun l _ => TX.S_len l
    rw [this]
    unfold wsD
    rw [List.length_map]
    omega
  · show (decide (((wsD ws).length : Int) ≤ 5) && (wsD ws).all isWord) = true
    rw [Bool.and_eq_true, decide_eq_true_eq, List.all_eq_true]
    refine ⟨by unfold wsD; rw [List.length_map]; omega, fun d hd => ?_⟩
    unfold wsD at hd
    obtain ⟨l, hl, rfl⟩ := List.mem_map.mp hd
    exact short_word l (h3 l hl)
  · show AL.S [47] ++ Txt.join (AL.S [47]) ((wsD ws).map strOf) = _
    rw [e, TX.join_S]
    exact SX.S_cat _ _
  · exact sm_mono (sm_app (n := 1) (m := 45) ⟨by decide, by decide⟩ (sm_join (k := 1) (n := 0) ⟨by decide, by decide⟩ (fun p hp => (h2 p hp).2) (by omega))) (by decide)
  · cases ws with
    | nil => rfl
    | cons p r =>
      have hne : TL.joinL [47] (p :: r) ≠ [] := by
        have hp := (short_free p (h3 p (List.mem_cons_self ..))).1
        cases r with
        | nil => simpa [TL.joinL] using hp
        | cons q r => simp [TL.joinL, hp]
      show thingL (47 :: TL.joinL [47] (p :: r)) = _
      rw [thing_path hne, TX.cut_join (by simp) fun l hl => (short_free l (h3 l hl)).2.1]
theorem thing_int {l : List Nat} {i : Int} (h : l ≠ [45] ∧ l.head? ≠ some 47 ∧ figsOk l = true ∧ numOf l = i) : thingL l = .int i := by
  unfold thingL
  rw [if_neg h.1, if_neg h.2.1, if_pos h.2.2.1, h.2.2.2]
theorem ar_int {k : Kd} {i : Int} {l : List Nat} (hk : k.ok (.int i) = true) (h1 : i.natAbs.log2 < 1920) (h2 : wordOf (.int i) = AL.S l) (h : sm 60 l) (h3 : thingL l = .int i) (h4 : 32 ∉ l ∧ 10 ∉ l) : Ar k (.int i) := ⟨h1, hk, l, h2, h, h3, h4.1, h4.2⟩
theorem ar_none : Ar .t .none := ⟨trivial, rfl, [45], rfl, ⟨by decide, by decide⟩, rfl, by decide, by decide⟩
theorem ar_0 {k : Kd} (hk : k.ok (.int 0) = true) : Ar k (.int 0) := ar_int (l := [48]) hk (by decide) (by decide +kernel) ⟨by decide, by decide⟩ (thing_int (by decide +kernel)) (by decide)
theorem ar_1 : Ar .w (.int 1) := ar_int (l := [49]) rfl (by decide) (by decide +kernel) ⟨by decide, by decide⟩ (thing_int (by decide +kernel)) (by decide)
theorem ar_12 : Ar .w (.int 12) := ar_int (l := [49, 50]) rfl (by decide) (by decide +kernel) ⟨by decide, by decide⟩ (thing_int (by decide +kernel)) (by decide)
theorem ar_5 : Ar .w (.int 5) := ar_int (l := [53]) rfl (by decide) (by decide +kernel) ⟨by decide, by decide⟩ (thing_int (by decide +kernel)) (by decide)
theorem ar_77 : Ar .t (.int 77) := ar_int (l := [55, 55]) rfl (by decide) (by decide +kernel) ⟨by decide, by decide⟩ (thing_int (by decide +kernel)) (by decide)
theorem ar_m3 : Ar .w (.int (-3)) := ar_int (l := [45, 51]) rfl (by decide) (by decide +kernel) ⟨by decide, by decide⟩ (thing_int (by decide +kernel)) (by decide)
theorem ar_m2 : Ar .t (.int (-2)) := ar_int (l := [45, 50]) rfl (by decide) (by decide +kernel) ⟨by decide, by decide⟩ (thing_int (by decide +kernel)) (by decide)
theorem ar_e12 : Ar .w (.int (10 ^ (12:Int).toNat)) := ar_int (l := 49 :: List.replicate 12 48) rfl (by decide +kernel) (by decide +kernel) ⟨by decide, by decide⟩ (thing_int (by decide +kernel)) (by decide)
theorem ar_e20 : Ar .w (.int (10 ^ (20:Int).toNat)) := ar_int (l := 49 :: List.replicate 20 48) rfl (by decide +kernel) (by decide +kernel) ⟨by decide, by decide⟩ (thing_int (by decide +kernel)) (by decide)
theorem ar_all : ∀ {ks : List Kd} {ds : List PyData}, Paired Ar ks ds → ds.length = ks.length ∧ ((ks.zip ds).all fun q => q.1.ok q.2) = true ∧ (∀ d ∈ ds, Wd d) ∧ ∃ ws : List (List Nat), ds.map wordOf = ws.map AL.S ∧ ws.map thingL = ds ∧ ws.length = ds.length ∧ ∀ p ∈ ws, sm 60 p ∧ 32 ∉ p ∧ 10 ∉ p
  | _, _, .nil => ⟨rfl, rfl, (fun d h => by cases h), [], rfl, rfl, rfl, fun p h => by cases h⟩
  | k :: ks, d :: ds, .cons ⟨h1, h2, l, h3, h4, h5, h6, h7⟩ t => by
    obtain ⟨g1, g2, g3, ws, g4, g5, g6, g7⟩ := ar_all t
    refine ⟨by rw [List.length_cons, List.length_cons, g1], by rw [List.zip_cons_cons, List.all_cons, g2, h2]; rfl, fun x hx => ?_, l :: ws, by rw [List.map_cons, List.map_cons, h3, g4], by rw [List.map_cons, h5, g5], by rw [List.length_cons, List.length_cons, g6], fun p hp => ?_⟩
    · rcases List.mem_cons.mp hx with rfl | hx
      · exact h1
      · exact g3 x hx
    · rcases List.mem_cons.mp hp with rfl | hp
      · exact ⟨h4, h6, h7⟩
      · exact g7 p hp
theorem gd_of {z : List Nat} {ks : List Kd} {ds : List PyData} (hf : formOf (AL.S z) = some ks) (hz : sm 60 z ∧ 32 ∉ z ∧ 10 ∉ z) (h : Paired Ar ks ds) : Gd (.str (AL.S z) :: ds) := by
  obtain ⟨g1, g2, g3, ws, g4, g5, g6, g7⟩ := ar_all h
  have hk := form_len hf
  have ha : ∀ p ∈ z :: ws, sm 60 p ∧ 32 ∉ p ∧ 10 ∉ p := fun p hp => by
    rcases List.mem_cons.mp hp with rfl | hp
    · exact hz
    · exact g7 p hp
  have hl : (z :: ws).length ≤ 4 := by rw [List.length_cons]; omega
  have hs := sum_le (ps := z :: ws) (n := 60) fun p hp => (ha p hp).1.1
  have hsh : shownE (.str (AL.S z) :: ds) = AL.S (TL.joinL [32] (z :: ws)) := by
    unfold shownE
    rw [List.map_cons, g4, show wordOf (.str (AL.S z)) = AL.S z from rfl, ← List.map_cons (f := AL.S), TX.join_S]
  have hc : cut 32 (TL.joinL [32] (z :: ws)) = z :: ws := TX.cut_join (by simp) fun p hp => (ha p hp).2.1
  have hfo : foundL (TL.joinL [32] (z :: ws)) = .str (AL.S z) :: ds := by
    unfold foundL
    rw [hc]
    simp only
    rw [g5]
  refine ⟨by rw [List.length_cons]; omega, fun d hd => ?_, TL.joinL [32] (z :: ws), hsh, ?_, fun hm => ?_, hfo, ?_⟩
  · rcases List.mem_cons.mp hd with rfl | hd
    · show (AL.S z).length ≤ 100000
      rw [TX.S_len]
      have := hz.1.1
      omega
    · exact g3 d hd
  · have h4 := TX.cut_sum 32 (TL.joinL [32] (z :: ws))
    rw [hc] at h4
    refine ⟨by omega, fun c hc => ?_⟩
    rcases joinL_mem hc with q | ⟨p, hp, q⟩
    · rw [List.mem_singleton.mp q]; decide
    · exact (ha p hp).1.2 c q
  · rcases joinL_mem hm with q | ⟨p, hp, q⟩
    · exact absurd (List.mem_singleton.mp q) (by decide)
    · exact (ha p hp).2.2 q
  · unfold goodL
    rw [hfo, hsh]
    simp only [isEntry, hf, g2, g1, decide_true, Bool.and_self]
section
variable {P : Program} {w : World} {K : PySem.W.Frag} {mg : Str → Option Value} {base : Heap} {f d C : Addr} {fd : FuncData} {a : Ads}
theorem sc_law_path : FnScope ["_law_room_here", "_law_turn"] ["_law_room_here"] (defScope (top 49)) := C8.fnScope_by (by decide +kernel)
theorem sc_law_entry : FnScope ["_law_room_here", "_law_one", "_law_other", "_law_number", "_law_more", "_law_end", "_law_some"] ["_law_room_here"] (defScope (top 50)) := C8.fnScope_by (by decide +kernel)
theorem at_in {α : Type} {xs : List α} {r : Int} (h0 : 0 ≤ r) (h1 : r < xs.length) : ∃ x, x ∈ xs ∧ atI xs r = some x := by
  have hlt : r.toNat < xs.length := by omega
  refine ⟨xs[r.toNat], List.getElem_mem hlt, ?_⟩
  unfold atI ixN
  rw [if_pos h0, if_pos h1]
  simp
/-- an item of a written list, at a drawn place -/
theorem wx_pick {b : Cf} {sl : Sl} {st : Sto} {ds : List PyData} {Φ : AV → Sto → Prop} {W : WX} {i n : Nat} {x y m : Int} {tl : TE} (hi : sl[i]? = some (some (.o n))) (hn : st[n]? = some (RmO x y)) (hl : ∀ st', Ev K tl sl st' (dL ds)) (hW : ErrOk K b W (fun _ _ _ => False)) (hm : m = ds.length) (hm0 : 0 < m ∧ m < 1000000)
    (k : ∀ d a' b', d ∈ ds → Φ (.d d) (st.set n (RmO a' b'))) : Wx K b (tOp (rIx K) tl (tCalW (spD K fTake) [] W (tCons (tVar i) (tCons (tC (.int m)) tNil)))) sl st Φ :=
  wx_op (wx_of (hl st) (wx_cal hW rnil (wa_of (ea_cons (ev_var hi) (ea_cons ev_i ea_nil)) ⟨n, x, y, m, rfl, hn, hm0, fun r a' b' h0 h1 => by
    obtain ⟨d, hd, ha⟩ := at_in (xs := ds) h0 (by omega)
    exact ⟨.d d, o_ixL ha, k d a' b' hd⟩⟩)))
theorem ok_law_path (B : BT mg) (F : Fn K "_law_path" 49 f fd) (c__law_take : DefD P w K mg base 1 "_law_take" fTake) : FnOk P w K mg base (L2.CX P w) 2 f fd ["_law_room_here"] (spD K fPath) := by
  refine fn_D F sc_law_path (fun xs st Φ Ψ h => ?_) (fun cdv A outer s H E hr => ⟨_, (pss_one (ps_ret (x_tuple (K := K) B (pe_lc (own := [("_law_turn", 1)]) (g := gName 1) (tt := tYes) rfl sc_law_path.nd (x_rng1 B (pe_f c__law_take hr takesD (pa_cons (pv 0) (pa_cons pe_int pa_nil)))) (blkOk_by (N := ["_law_room_here", "_law_turn"]) (sc := defScope (top 49)) (by decide +kernel)) (fun _ _ _ _ _ => pg_name (i := 1) sc_law_path.nd rfl (by first | exact Or.inl rfl | exact Or.inr rfl)) (fun _ _ _ _ _ => pts_nil) (fun _ _ _ _ _ => (x_ix (K := K) (pe_lst (pa_cons pe_str (pa_cons pe_str (pa_cons pe_str pa_nil)))) (pe_f c__law_take hr takes0 (pa_cons (pv 0) (pa_cons pe_int pa_nil))))))))), fun b xs st Φ Ψ h hW => ?_⟩)
  · obtain ⟨_, _, _, rfl, _⟩ := h
    rfl
  · obtain ⟨n, x, y, rfl, hn, k⟩ := h
    refine ws_ret (wx_cb (wa_cons (wx_lc (wi_rng1 (wa_cons (wx_cal (G := fun _ _ _ => False) (fun _ _ _ _ _ _ _ _ _ _ k => k.elim) rnil (wa_of (ea_cons (ev_var rfl) (ea_cons ev_i ea_nil)) ⟨n, x, y, 6, rfl, hn, by decide, fun r a' b' h0 h1 => ?_⟩)))) )))
    refine wa_nil ⟨r, rfl, by omega, by rw [List.length_map, List.length_range]; omega, fun i acc st2 => ∃ ws a' b', acc = wsD ws ∧ ws.length = i ∧ (∀ l ∈ ws, l ∈ SHORT) ∧ st2 = st.set n (RmO a' b'), ⟨[], a', b', rfl, rfl, fun _ h => (nomatch h), rfl⟩, ?_, ?_⟩
    · rintro i z acc st2 hz ⟨ws, a1, b1, rfl, hl, hs, rfl⟩ hacc
      refine ⟨_, [1], by decide, eg_name, fun b' => ?_⟩
      have hn1 := set_get (o' := RmO a1 b1) hn
      refine wx_pick (i := 0) (ds := wsD SHORT) rfl hn1 (fun st' => ev_lst (ds := wsD SHORT) (ea_cons ev_s (ea_cons ev_s (ea_cons ev_s ea_nil))) (by decide)) hW0 rfl (by decide) fun d a2 b2 hd => ?_
      unfold wsD at hd
      obtain ⟨l, hl2, rfl⟩ := List.mem_map.mp hd
      refine ⟨_, rfl, ws ++ [l], a2, b2, by unfold wsD; rw [List.map_append]; rfl, by rw [List.length_append]; simp [hl], fun q hq => ?_, by rw [List.set_set]⟩
      rcases List.mem_append.mp hq with h | h
      · exact hs q h
      · rw [List.mem_singleton.mp h]
        exact hl2
    · rintro acc st2 ⟨ws, a1, b1, rfl, hl, hs, rfl⟩
      rw [List.length_map, List.length_range] at hl
      exact wa_nil ⟨_, o_tupL, k ws a1 b1 (by omega) hs⟩
theorem ok_law_entry (B : BT mg) (F : Fn K "_law_entry" 50 f fd) (c__law_take : DefD P w K mg base 1 "_law_take" fTake) (c__law_path : DefD P w K mg base 2 "_law_path" fPath) : FnOk P w K mg base (L2.CX P w) 3 f fd ["_law_room_here"] (spD K fEntry) := by
  refine fn_D F sc_law_entry (fun xs st Φ Ψ h => ?_) (fun cdv A outer s H E hr => ⟨_, (pss_cons (ps_par (i := 1) (j := 2) rfl sc_law_entry.nd rfl rfl (by decide) rfl rfl (pa_cons (pe_f c__law_path hr takesD (pa_cons (pv 0) pa_nil)) (pa_cons (pe_f c__law_path hr takesD (pa_cons (pv 0) pa_nil)) pa_nil)) rfl)
      (pss_cons (ps_par (i := 3) (j := 4) rfl sc_law_entry.nd rfl rfl (by decide) rfl rfl (pa_cons (x_ix (K := K) (pe_lst (pa_cons pe_int (pa_cons pe_int (pa_cons pe_int (pa_cons (x_pow pe_int pe_int) pa_nil))))) (pe_f c__law_take hr takesD (pa_cons (pv 0) (pa_cons pe_int pa_nil)))) (pa_cons (x_ix (K := K) (pe_lst (pa_cons pe_int (pa_cons pe_int (pa_cons (x_neg pe_int) (pa_cons (x_pow pe_int pe_int) pa_nil))))) (pe_f c__law_take hr takesD (pa_cons (pv 0) (pa_cons pe_int pa_nil)))) pa_nil)) rfl)
      (pss_cons (ps_set (i := 5) sc_law_entry.nd rfl (by first | exact Or.inl rfl | exact Or.inr rfl) (x_ix (K := K) (pe_lst (pa_cons pe_non (pa_cons pe_int (pa_cons pe_int (pa_cons (x_neg pe_int) pa_nil))))) (pe_f c__law_take hr takesD (pa_cons (pv 0) (pa_cons pe_int pa_nil)))))
      (pss_cons (ps_set (i := 6) sc_law_entry.nd rfl (by first | exact Or.inl rfl | exact Or.inr rfl) (pe_lst (pa_cons (pe_tup (pa_cons pe_str (pa_cons (pv 1) pa_nil))) (pa_cons (pe_tup (pa_cons pe_str (pa_cons (pv 1) pa_nil))) (pa_cons (pe_tup (pa_cons pe_str (pa_cons (pv 1) (pa_cons (pv 2) pa_nil)))) (pa_cons (pe_tup (pa_cons pe_str (pa_cons (pv 1) (pa_cons (pv 2) pa_nil)))) (pa_cons (pe_tup (pa_cons pe_str (pa_cons (pv 1) (pa_cons (pv 4) pa_nil)))) pa_nil)))))))
      (pss_cons (ps_set (i := 6) sc_law_entry.nd rfl (by first | exact Or.inl rfl | exact Or.inr rfl) (x_add (K := K) (pv 6) (pe_lst (pa_cons (pe_tup (pa_cons pe_str (pa_cons (pv 3) (pa_cons (pv 1) pa_nil)))) (pa_cons (pe_tup (pa_cons pe_str (pa_cons (pv 3) pa_nil))) (pa_cons (pe_tup (pa_cons pe_str (pa_cons (pv 3) pa_nil))) (pa_cons (pe_tup (pa_cons pe_str (pa_cons (pv 1) (pa_cons (pv 3) pa_nil)))) pa_nil)))))))
      (pss_cons (ps_set (i := 6) sc_law_entry.nd rfl (by first | exact Or.inl rfl | exact Or.inr rfl) (x_add (K := K) (pv 6) (pe_lst (pa_cons (pe_tup (pa_cons pe_str (pa_cons (pv 1) (pa_cons (pv 3) (pa_cons (pv 4) pa_nil))))) (pa_cons (pe_tup (pa_cons pe_str (pa_cons (pv 3) (pa_cons (pv 4) (pa_cons (pv 5) pa_nil))))) (pa_cons (pe_tup (pa_cons pe_str (pa_cons (pv 3) (pa_cons (pv 4) (pa_cons (pv 5) pa_nil))))) pa_nil))))))
      (pss_one (ps_ret (x_ix (K := K) (pv 6) (pe_f c__law_take hr takesD (pa_cons (pv 0) (pa_cons pe_int pa_nil)))))))))))), fun b xs st Φ Ψ h hW => ?_⟩)
  · obtain ⟨_, _, _, rfl, _⟩ := h
    rfl
  · obtain ⟨n, x, y, rfl, hn, k⟩ := h
    have hF : ErrOk K b (fun cls d _ H => E cls d H) (fun _ _ _ => False) := fun _ _ _ _ _ _ _ _ _ _ k => k.elim
    refine ws_sq (ws_par (wa_cons (wx_cal hF rnil (wa_of (ea_cons (ev_var rfl) ea_nil) ⟨n, x, y, rfl, hn, fun w1 x1 y1 l1 s1 => ?_⟩))))
    have hn1 := set_get (o' := RmO x1 y1) hn
    refine wa_cons (wx_cal hF rnil (wa_of (ea_cons (ev_var rfl) ea_nil) ⟨n, x1, y1, rfl, hn1, fun w2 x2 y2 l2 s2 => ?_⟩))
    rw [List.set_set]
    have hn2 := set_get (o' := RmO x2 y2) hn
    refine wa_nil ⟨_, _, rfl, ?_⟩
    refine ws_sq (ws_par (wa_cons (wx_pick (i := 0) (ds := [.int 0, .int 1, .int 12, .int (10 ^ (12:Int).toNat)]) rfl hn2 (fun st' => ev_lst (ea_cons ev_i (ea_cons ev_i (ea_cons ev_i (ea_cons (ev_op ev_i ev_i (o_IC ⟨by decide, by decide, by decide⟩)) ea_nil)))) (by decide)) hF rfl (by decide) fun d3 x3 y3 hd3 => ?_)))
    rw [List.set_set]
    have hn3 := set_get (o' := RmO x3 y3) hn
    refine wa_cons (wx_pick (i := 0) (ds := [.int 0, .int 5, .int (-3), .int (10 ^ (20:Int).toNat)]) rfl hn3 (fun st' => ev_lst (ea_cons ev_i (ea_cons ev_i (ea_cons (ev_neg ev_i) (ea_cons (ev_op ev_i ev_i (o_IC ⟨by decide, by decide, by decide⟩)) ea_nil)))) (by decide)) hF rfl (by decide) fun d4 x4 y4 hd4 => ?_)
    rw [List.set_set]
    have hn4 := set_get (o' := RmO x4 y4) hn
    refine wa_nil ⟨_, _, rfl, ?_⟩
    refine ws_sq (ws_asg (wx_pick (i := 0) (ds := [.none, .int 0, .int 77, .int (-2)]) rfl hn4 (fun st' => ev_lst (ea_cons ev_n (ea_cons ev_i (ea_cons ev_i (ea_cons (ev_neg ev_i) ea_nil)))) (by decide)) hF rfl (by decide) fun d5 x5 y5 hd5 => ?_))
    rw [List.set_set]
    have hn5 := set_get (o' := RmO x5 y5) hn
    have p1 := ar_path l1 s1
    have p2 := ar_path l2 s2
    have e3 : Ar .w d3 := by
      simp only [List.mem_cons, List.not_mem_nil, or_false] at hd3
      rcases hd3 with rfl | rfl | rfl | rfl
      · exact ar_0 rfl
      · exact ar_1
      · exact ar_12
      · exact ar_e12
    have e4 : Ar .w d4 := by
      simp only [List.mem_cons, List.not_mem_nil, or_false] at hd4
      rcases hd4 with rfl | rfl | rfl | rfl
      · exact ar_0 rfl
      · exact ar_5
      · exact ar_m3
      · exact ar_e20
    have e5 : Ar .t d5 := by
      simp only [List.mem_cons, List.not_mem_nil, or_false] at hd5
      rcases hd5 with rfl | rfl | rfl | rfl
      · exact ar_none
      · exact ar_0 rfl
      · exact ar_77
      · exact ar_m2
    have e4t : Ar .w d4 := e4
    generalize wsD w1 = W1 at *
    generalize wsD w2 = W2 at *
    let es1 : List (List PyData) := [[.str "make", .tuple W1], [.str "folder", .tuple W1], [.str "move", .tuple W1, .tuple W2], [.str "copy", .tuple W1, .tuple W2], [.str "drop", .tuple W1, d4]]
    let es2 : List (List PyData) := [[.str "bring", d3, .tuple W1], [.str "clear", d3], [.str "number", d3], [.str "piece", .tuple W1, d3]]
    let es3 : List (List PyData) := [[.str "own", .tuple W1, d3, d4], [.str "raise", d3, d4, d5], [.str "edition", d3, d4, d5]]
    let tl (es : List (List PyData)) : List PyData := es.map PyData.tuple
    refine ws_asgS (x := dL (tl es1)) (ev_lst (ds := tl es1) (ea_cons (ev_tup (ds := [_, _]) (ea_cons ev_s (ea_cons (ev_var rfl) ea_nil)) (Nat.le_of_ble_eq_true rfl)) (ea_cons (ev_tup (ds := [_, _]) (ea_cons ev_s (ea_cons (ev_var rfl) ea_nil)) (Nat.le_of_ble_eq_true rfl)) (ea_cons (ev_tup (ds := [_, _, _]) (ea_cons ev_s (ea_cons (ev_var rfl) (ea_cons (ev_var rfl) ea_nil))) (Nat.le_of_ble_eq_true rfl)) (ea_cons (ev_tup (ds := [_, _, _]) (ea_cons ev_s (ea_cons (ev_var rfl) (ea_cons (ev_var rfl) ea_nil))) (Nat.le_of_ble_eq_true rfl)) (ea_cons (ev_tup (ds := [_, _, _]) (ea_cons ev_s (ea_cons (ev_var rfl) (ea_cons (ev_var rfl) ea_nil))) (Nat.le_of_ble_eq_true rfl)) ea_nil))))) (Nat.le_of_ble_eq_true rfl)) ?_
    refine ws_asgS (x := dL (tl es1 ++ tl es2)) (ev_op (ev_var rfl) (ev_lst (ds := tl es2) (ea_cons (ev_tup (ds := [_, _, _]) (ea_cons ev_s (ea_cons (ev_var rfl) (ea_cons (ev_var rfl) ea_nil))) (Nat.le_of_ble_eq_true rfl)) (ea_cons (ev_tup (ds := [_, _]) (ea_cons ev_s (ea_cons (ev_var rfl) ea_nil)) (Nat.le_of_ble_eq_true rfl)) (ea_cons (ev_tup (ds := [_, _]) (ea_cons ev_s (ea_cons (ev_var rfl) ea_nil)) (Nat.le_of_ble_eq_true rfl)) (ea_cons (ev_tup (ds := [_, _, _]) (ea_cons ev_s (ea_cons (ev_var rfl) (ea_cons (ev_var rfl) ea_nil))) (Nat.le_of_ble_eq_true rfl)) ea_nil)))) (Nat.le_of_ble_eq_true rfl)) (o_addL (Nat.le_of_ble_eq_true rfl))) ?_
    refine ws_asgS (x := dL (tl es1 ++ tl es2 ++ tl es3)) (ev_op (ev_var rfl) (ev_lst (ds := tl es3) (ea_cons (ev_tup (ds := [_, _, _, _]) (ea_cons ev_s (ea_cons (ev_var rfl) (ea_cons (ev_var rfl) (ea_cons (ev_var rfl) ea_nil)))) (Nat.le_of_ble_eq_true rfl)) (ea_cons (ev_tup (ds := [_, _, _, _]) (ea_cons ev_s (ea_cons (ev_var rfl) (ea_cons (ev_var rfl) (ea_cons (ev_var rfl) ea_nil)))) (Nat.le_of_ble_eq_true rfl)) (ea_cons (ev_tup (ds := [_, _, _, _]) (ea_cons ev_s (ea_cons (ev_var rfl) (ea_cons (ev_var rfl) (ea_cons (ev_var rfl) ea_nil)))) (Nat.le_of_ble_eq_true rfl)) ea_nil))) (Nat.le_of_ble_eq_true rfl)) (o_addL (Nat.le_of_ble_eq_true rfl))) ?_
    refine ws_ret (wx_pick (i := 0) (ds := tl es1 ++ tl es2 ++ tl es3) rfl hn5 (fun st' => ev_var rfl) hF rfl (by decide) fun d6 x6 y6 hd6 => ?_)
    rw [List.set_set]
    have hall : ∀ ds ∈ es1 ++ es2 ++ es3, Gd ds := by
      have q : ∀ (l : List Nat) (ks : List Kd) (ds : List PyData), formOf (AL.S l) = some ks → (decide (l.length ≤ 60) && (l.all (fun c => decide (c < 128)) && (!(decide (32 ∈ l)) && !(decide (10 ∈ l))))) = true → Paired Ar ks ds → Gd (.str (AL.S l) :: ds) := fun l ks ds hf hl hp => by
        simp only [Bool.and_eq_true, decide_eq_true_eq, List.all_eq_true, Bool.not_eq_true', decide_eq_false_iff_not] at hl
        exact gd_of hf ⟨⟨hl.1, hl.2.1⟩, hl.2.2.1, hl.2.2.2⟩ hp
      intro ds hds
      simp only [es1, es2, es3, List.cons_append, List.nil_append, List.mem_cons, List.not_mem_nil, or_false] at hds
      rcases hds with rfl | rfl | rfl | rfl | rfl | rfl | rfl | rfl | rfl | rfl | rfl | rfl
      · exact q [109, 97, 107, 101] [.p] _ rfl rfl (.cons p1 .nil)
      · exact q [102, 111, 108, 100, 101, 114] [.p] _ rfl rfl (.cons p1 .nil)
      · exact q [109, 111, 118, 101] [.p, .p] _ rfl rfl (.cons p1 (.cons p2 .nil))
      · exact q [99, 111, 112, 121] [.p, .p] _ rfl rfl (.cons p1 (.cons p2 .nil))
      · exact q [100, 114, 111, 112] [.p, .w] _ rfl rfl (.cons p1 (.cons e4 .nil))
      · exact q [98, 114, 105, 110, 103] [.w, .p] _ rfl rfl (.cons e3 (.cons p1 .nil))
      · exact q [99, 108, 101, 97, 114] [.w] _ rfl rfl (.cons e3 .nil)
      · exact q [110, 117, 109, 98, 101, 114] [.w] _ rfl rfl (.cons e3 .nil)
      · exact q [112, 105, 101, 99, 101] [.p, .w] _ rfl rfl (.cons p1 (.cons e3 .nil))
      · exact q [111, 119, 110] [.p, .w, .w] _ rfl rfl (.cons p1 (.cons e3 (.cons e4 .nil)))
      · exact q [114, 97, 105, 115, 101] [.w, .w, .t] _ rfl rfl (.cons e3 (.cons e4 (.cons e5 .nil)))
      · exact q [101, 100, 105, 116, 105, 111, 110] [.w, .w, .t] _ rfl rfl (.cons e3 (.cons e4 (.cons e5 .nil)))
    have : tl es1 ++ tl es2 ++ tl es3 = tl (es1 ++ es2 ++ es3) := by simp [tl]
    rw [this] at hd6
    obtain ⟨ds, hds, rfl⟩ := List.mem_map.mp hd6
    exact k ds x6 y6 (hall ds hds)
end
end K67

set_option Elab.async false
set_option linter.all false
set_option maxRecDepth 100000
set_option maxHeartbeats 4000000
namespace K67
open PySem PySem.Spec PyProof.Rows L2 AL
open TX (Fl okZ)
/-! ### a book: five entries noted one by one; what is asked ahead of each -/
def mt (j : Nat) : Stmt := inClass (top 31) j
abbrev Mt (K : PySem.W.Frag) (x : String) (i : Nat) (dvs : List V) (f : Addr) (fd : FuncData) : Prop := FunD K (Str.ofString x) (Str.ofString ("Book." ++ x)) (defArgs (mt i)) (defBody (mt i)) (defScope (mt i)) dvs [] f fd
def FLD : List Str := ["trees", "away_now", "many_away", "rows", "spent", "next", "own_entries"]
structure BkF (K : PySem.W.Frag) (C : Addr) : Prop where
  cl : Cls K C
  na : ∀ f ∈ FLD, NoAttr K C f
def PA : PyData := .tuple [.str "a"]
def TEN : Int := 20
def ent : Nat → List PyData
  | 0 => [.str "make", PA]
  | 1 => [.str "number", .int 1]
  | 2 => [.str "piece", PA, .int 1]
  | 3 => [.str "raise", .int 1, .int 2, .int 20]
  | _ => [.str "edition", .int 1, .int 2, .int 20]
def ents (k : Nat) : List AV := (List.range k).map fun i => dT (ent i)
def insF (n : Nat) (nx : Int) (r : Nat) : List (Str × AV) := [("trees", .o (n + 1)), ("away_now", .o (n + 2)), ("many_away", dI 0), ("rows", .o (n + r)), ("spent", .o (n + 4)), ("next", dI nx), ("own_entries", .o (n + 5))]
def rw3 (i j : Int) (e : PyData) : List (Key × AV) := [(.inl 1, dT [.int i, .int j, e])]
def tr1 (n : Nat) : List (List Key × AV) := [([], dN), ([.inr "a"], .o (n + 6))]
/-- the store behind k entries -/
def bk (C : Addr) (n : Nat) : Nat → Sto
  | 0 => [.ins C (insF n 1 3), .dt [([], dN)], .dk [], .dk [], .dk [], .lst []]
  | 1 => [.ins C (insF n 1 7), .dt (tr1 n), .dk [], .dk [], .dk [], .lst (ents 1), .lst [], .dk []]
  | 2 => [.ins C (insF n 2 8), .dt (tr1 n), .dk [], .dk [], .dk [], .lst (ents 2), .lst [], .dk [], .dk []]
  | 3 => [.ins C (insF n 2 9), .dt (tr1 n), .dk [], .dk [], .dk [(.inl 1, dB true)], .lst (ents 3), .lst [dI 1], .dk [], .dk (rw3 1 1 .none), .dk (rw3 1 1 .none)]
  | 4 => [.ins C (insF n 2 10), .dt (tr1 n), .dk [], .dk [], .dk [(.inl 1, dB true)], .lst (ents 4), .lst [dI 1], .dk [], .dk (rw3 1 1 .none), .dk (rw3 1 2 (.int 20)), .dk (rw3 1 2 (.int 20))]
  | _ => [.ins C (insF n 2 11), .dt (tr1 n), .dk [], .dk [], .dk [(.inl 1, dB true)], .lst (ents 5), .lst [dI 1], .dk [], .dk (rw3 1 1 .none), .dk (rw3 1 2 (.int 20)), .dk (rw3 2 2 (.int 20)), .dk (rw3 2 2 (.int 20))]
/-! promises -/
def isFrom (x y z : PyData) : Bool := match x, y, z with
  | .int i, .int j, .none => decide (j ≤ i)
  | _, _, _ => false
def fIsFrom1 : DS := fun xs st Φ _ => ∃ i : Int, xs = [dI i, dI 1, dN] ∧ Φ (dB (decide (1 ≤ i))) st
def fIsNumber1 : DS := fun xs st Φ _ => ∃ i : Int, xs = [dI i] ∧ Φ (dB (decide (1 ≤ i))) st
def At (C : Addr) (k : Nat) (st : Sto) (n : Nat) : Prop := ∃ l : Sto, st = l ++ bk C l.length k ∧ n = l.length
def fOnWay (C : Addr) : DS := fun xs st Φ _ => ∃ n, xs = [.o n, .d PA] ∧ Φ dN st
def fStage (C : Addr) (ok : Nat → List AV → AV → Prop) : DS := fun xs st Φ _ => ∃ k l as r, xs = .o l.length :: as ∧ st = l ++ bk C l.length k ∧ ok k as r ∧ Φ r st
def fThere (C : Addr) : DS := fStage C fun k as r => k = 2 ∧ as = [.d PA] ∧ r = dN
def fNew (C : Addr) : DS := fStage C fun k as r => k = 0 ∧ as = [.d PA] ∧ r = dN
def fIsFile (C : Addr) : DS := fStage C fun k as r => k = 2 ∧ as = [.d PA] ∧ r = dB true
def fPathC (C : Addr) : DS := fStage C fun k as r => ((k = 0 ∧ as = [dS "make", .d PA]) ∨ (k = 2 ∧ as = [dS "piece", .d PA])) ∧ r = dN
def fFresh (C : Addr) : DS := fStage C fun k as r => k = 2 ∧ as = [dI 1] ∧ r = dB true
def fPieceC (C : Addr) : DS := fStage C fun k as r => (k = 3 ∨ k = 4) ∧ as = [dI 1] ∧ r = dN
def fNumbers (C : Addr) : DS := fStage C fun k as r => ((k = 0 ∧ as = [dS "make", .d PA, dL []]) ∨ (k = 2 ∧ as = [dS "piece", .d PA, dL [.int 1]])) ∧ r = dN
def fEditions (C : Addr) : DS := fStage C fun k as r => ((k = 1 ∧ as = [dS "number", dI 1, dN]) ∨ (k = 3 ∧ as = [dS "raise", dI 1, dI 2]) ∨ (k = 4 ∧ as = [dS "edition", dI 1, dI 2])) ∧ r = dN
def fLookAt (C : Addr) : DS := fStage C fun k as r => k < 5 ∧ as = [dT (ent k)] ∧ r = dN
section
variable {P : Program} {w : World} {K : PySem.W.Frag} {mg : Str → Option Value} {base : Heap} {f d C NW : Addr} {fd : FuncData}
abbrev MtD (P : Program) (w : World) (K : PySem.W.Frag) (mg : Str → Option Value) (base : Heap) (k : Nat) (C : Addr) (m : Str) (F : DS) : Prop := MethOk P w K mg base k C m [] (spD K F)
theorem sc_is_from : FnScope ["thing", "least", "most"] ["thing", "least", "most"] (defScope (top 21)) := C8.fnScope_by (by decide +kernel)
theorem sc_is_number : FnScope ["thing"] ["thing"] (defScope (top 22)) := C8.fnScope_by (by decide +kernel)
theorem sc_is_file : FnScope ["self", "path"] ["self", "path"] (defScope (mt 2)) := C8.fnScope_by (by decide +kernel)
theorem sc_look_on_way : FnScope ["self", "path", "many"] ["self", "path"] (defScope (mt 3)) := C8.fnScope_by (by decide +kernel)
theorem sc_look_at_there : FnScope ["self", "path"] ["self", "path"] (defScope (mt 4)) := C8.fnScope_by (by decide +kernel)
theorem sc_look_at_new : FnScope ["self", "path"] ["self", "path"] (defScope (mt 5)) := C8.fnScope_by (by decide +kernel)
theorem sc_look_at_file : FnScope ["self", "path"] ["self", "path"] (defScope (mt 6)) := C8.fnScope_by (by decide +kernel)
theorem sc_look_at_path : FnScope ["self", "word", "path"] ["self", "word", "path"] (defScope (mt 7)) := C8.fnScope_by (by decide +kernel)
theorem sc_is_fresh : FnScope ["self", "thing"] ["self", "thing"] (defScope (mt 9)) := C8.fnScope_by (by decide +kernel)
theorem sc_look_at_piece : FnScope ["self", "thing"] ["self", "thing"] (defScope (mt 10)) := C8.fnScope_by (by decide +kernel)
theorem sc_look_at_numbers : FnScope ["self", "word", "path", "rest"] ["self", "word", "path", "rest"] (defScope (mt 11)) := C8.fnScope_by (by decide +kernel)
theorem sc_look_at_editions : FnScope ["self", "word", "number", "edition", "newest", "used", "end", "due"] ["self", "word", "number", "edition"] (defScope (mt 12)) := C8.fnScope_by (by decide +kernel)
theorem sc_look_at : FnScope ["self", "entry", "word", "rest"] ["self", "entry"] (defScope (mt 14)) := C8.fnScope_by (by decide +kernel)
theorem ok_is_from (B : BT mg) (F : FunD K "is_from" "is_from" (defArgs (top 21)) (defBody (top 21)) (defScope (top 21)) [.non] [] f fd) (c_is_whole : DefD P w K mg base 1 "is_whole" fIsWhole) : FnOk P w K mg base (L2.CX P w) 2 f fd ["thing", "least", "most"] (spD K fIsFrom1) := by
  refine fn_D F sc_is_from (fun xs st Φ Ψ h => ?_) (fun cdv A outer s H E hr => ⟨_, (pss_one (ps_ret (pe_and (pe_f c_is_whole hr takesD (pa_cons (pv 0) pa_nil)) (pe_and (x_ge (pv 0) (pv 1)) (pe_one (pe_or (x_isN (pv 2) pe_non) (pe_one (x_le (pv 0) (pv 2))))))))), fun b xs st Φ Ψ h hW => ?_⟩)
  · obtain ⟨_, rfl, _⟩ := h
    rfl
  · obtain ⟨i, rfl, k⟩ := h
    refine ws_retE (x := dB (isWhole (.int i) && (decide (1 ≤ i) && (AL.isNone .none || false)))) (ev_andV (ev_cal rnil (ea_cons (ev_var rfl) ea_nil) ⟨.int i, rfl, rfl, rfl⟩) fun _ => ev_andV (ev_op (ev_var rfl) (ev_var rfl) o_Ib) fun _ => ev_orV (ev_op (ev_var rfl) ev_n o_isN) fun h => by cases h) ?_
    have : (isWhole (.int i) && (decide (1 ≤ i) && (AL.isNone .none || false))) = decide (1 ≤ i) := by simp [isWhole, AL.isNone]
    rw [this]
    exact k
theorem ok_is_number (F : Fn K "is_number" 22 f fd) (c_is_from : DefOk P w K mg base 2 "is_from" [.non] (spD K fIsFrom1)) : FnOk P w K mg base (L2.CX P w) 3 f fd ["thing"] (spD K fIsNumber1) := by
  refine fn_D F sc_is_number (fun xs st Φ Ψ h => ?_) (fun cdv A outer s H E hr => ⟨_, (pss_one (ps_ret (pe_f c_is_from hr takesD (pa_cons (pv 0) (pa_cons pe_int pa_nil))))), fun b xs st Φ Ψ h hW => ?_⟩)
  · obtain ⟨_, rfl, _⟩ := h
    rfl
  · obtain ⟨i, rfl, k⟩ := h
    exact ws_retE (ev_cal (fun c => .cons (show Rv K c V.non dN from Dt.non) .nil) (ea_cons (ev_var rfl) (ea_cons ev_i ea_nil)) ⟨i, rfl, rfl, rfl⟩) k
/-! methods -/
theorem ev_f (BK : BkF K C) {l m : Sto} {sl : Sl} {fs : List (Str × AV)} {g : Str} {x : AV} (h : sl[0]? = some (some (.o l.length))) (hm : m[0]? = some (.ins C fs)) (hl : fs.lookup g = some x) (hf : g ∈ FLD) : Ev K (tFld K (tVar 0) g) sl (l ++ m) x := ev_fld (ev_var h) (at_ (j := 0) hm) BK.cl (BK.na _ hf) hl
/-- a method that asks -/
theorem ev_ask {ok : Nat → List AV → AV → Prop} {k : Nat} {l : Sto} {sl : Sl} {fs : List (Str × AV)} {m : Str} {W : WX} {t : TA} {xs : List AV} {r : AV} (h : sl[0]? = some (some (.o l.length))) (hm : (bk C l.length k)[0]? = some (.ins C fs)) (hl : fs.lookup m = none) (ha : Ea K t sl (l ++ bk C l.length k) xs) (ho : ok k xs r) :
    Ev K (tMetW C m (spD K (fStage C ok)) [] W (tVar 0) t) sl (l ++ bk C l.length k) r := ev_met rnil (ev_var h) (at_ (j := 0) hm) hl ha ⟨k, l, xs ++ [], r, rfl, rfl, by rw [List.append_nil]; exact ho, rfl, rfl⟩
theorem ev_inTup {sl : Sl} {st : Sto} {te : TE} {ta : TA} {z : Str} {ys : List Str} (h : Ev K te sl st (dS z)) (ha : Ea K ta sl st ((ys.map PyData.str).map AV.d)) (hl : (ys.map PyData.str).length ≤ 100000) : Et K (tTest (tOp (rIn K false) te (tTup ta))) sl st (inV (.str z) (ys.map V.str)) := et_test (ev_op h (ev_tup ha hl) o_inTt)
theorem ok_look_on_way (B : BT mg) (F : Mt K "look_on_way" 3 [] f fd) : FnOk P w K mg base (L2.CX P w) 1 f fd ["self", "path"] (spD K (fOnWay C)) := by
  refine fn_D F sc_look_on_way (fun xs st Φ Ψ h => ?_) (fun cdv A outer s H E hr => ⟨_, (pss_one (ps_for (passes_of rfl) rfl (x_rng2 B pe_int (x_len (K := K) B (pv 1))) (pg_name (i := 2) sc_look_on_way.nd rfl (by first | exact Or.inl rfl | exact Or.inr rfl)) (pss_cons AL.ps_never
      (pss_one AL.ps_never)))), fun b xs st Φ Ψ h hW => ?_⟩)
  · obtain ⟨_, rfl, _⟩ := h
    rfl
  · obtain ⟨n, rfl, k⟩ := h
    refine ws_for (wi_of (ei_rng2n (ea_cons ev_i (ea_cons (ev_lenT (xs := [.str "a"]) (ev_var rfl)) ea_nil))) ⟨fun _ _ st' => st' = st, rfl, ?_, ?_⟩)
    · intro i x sl st' hx
      cases hx
    · rintro sl st' rfl
      exact k
theorem ok_is_file (BK : BkF K C) (F : Mt K "is_file" 2 [] f fd) : FnOk P w K mg base (L2.CX P w) 1 f fd ["self", "path"] (spD K (fIsFile C)) := by
  refine fn_D F sc_is_file (fun xs st Φ Ψ h => ?_) (fun cdv A outer s H E hr => ⟨_, (pss_one (ps_ret (x_notN (pe_dget1 (Nat.lt_of_le_of_lt (Nat.add_le_add_left (by decide) _) hr.units) (x_fld (K := K) (pv 0)) (pv 1) ⟨rfl, rfl, rfl, rfl⟩) pe_non))), fun b xs st Φ Ψ h hW => ?_⟩)
  · obtain ⟨_, _, _, _, rfl, _, ⟨_, rfl, _⟩, _⟩ := h
    rfl
  · obtain ⟨_, l, _, _, rfl, rfl, ⟨rfl, rfl, rfl⟩, k⟩ := h
    refine ws_retE (ev_op (ev_dget1T (k := [.inr "a"]) (x := .o (l.length + 6)) (ev_fld (ev_var rfl) (at_ (j := 0) rfl) BK.cl (BK.na _ (by simp [FLD])) rfl) (ev_var rfl) (at_ (j := 1) rfl) rfl) ev_n o_notNO) k
theorem ok_look_at_there (BK : BkF K C) (F : Mt K "look_at_there" 4 [] f fd) (m_look_on_way : MtD P w K mg base 1 C "look_on_way" (fOnWay C)) : FnOk P w K mg base (L2.CX P w) 2 f fd ["self", "path"] (spD K (fThere C)) := by
  refine fn_D F sc_look_at_there (fun xs st Φ Ψ h => ?_) (fun cdv A outer s H E hr => ⟨_, (pss_cons (ps_expr (pe_m m_look_on_way hr takesD (pv 0) (pa_cons (pv 1) pa_nil)))
      (pss_one (ps_if (t_niD hr.units (pv 1) (x_fld (K := K) (pv 0))) (pss_one AL.ps_never) pss_nil))), fun b xs st Φ Ψ h hW => ?_⟩)
  · obtain ⟨_, _, _, _, rfl, _, ⟨_, rfl, _⟩, _⟩ := h
    rfl
  · obtain ⟨_, l, _, _, rfl, rfl, ⟨rfl, rfl, rfl⟩, k⟩ := h
    refine ws_sq (ws_drop (wx_of (ev_met rnil (ev_var rfl) (at_ (j := 0) rfl) rfl (ea_cons (ev_var rfl) ea_nil) ⟨_, rfl, rfl, rfl⟩) ?_))
    exact ws_ifE (p := false) (et_is (et_B (ev_dnotinT (k := [.inr "a"]) (ev_var rfl) (ev_f BK rfl rfl rfl (by simp [FLD])) (at_ (j := 1) rfl))) rfl) (fun h => by cases h) fun _ => ws_next k
theorem ok_look_at_new (BK : BkF K C) (F : Mt K "look_at_new" 5 [] f fd) (m_look_on_way : MtD P w K mg base 1 C "look_on_way" (fOnWay C)) : FnOk P w K mg base (L2.CX P w) 2 f fd ["self", "path"] (spD K (fNew C)) := by
  refine fn_D F sc_look_at_new (fun xs st Φ Ψ h => ?_) (fun cdv A outer s H E hr => ⟨_, (pss_cons (ps_expr (pe_m m_look_on_way hr takesD (pv 0) (pa_cons (pv 1) pa_nil)))
      (pss_one (ps_if (t_inD hr.units (pv 1) (x_fld (K := K) (pv 0))) (pss_one AL.ps_never) pss_nil))), fun b xs st Φ Ψ h hW => ?_⟩)
  · obtain ⟨_, _, _, _, rfl, _, ⟨_, rfl, _⟩, _⟩ := h
    rfl
  · obtain ⟨_, l, _, _, rfl, rfl, ⟨rfl, rfl, rfl⟩, k⟩ := h
    refine ws_sq (ws_drop (wx_of (ev_met rnil (ev_var rfl) (at_ (j := 0) rfl) rfl (ea_cons (ev_var rfl) ea_nil) ⟨_, rfl, rfl, rfl⟩) ?_))
    exact ws_ifE (p := false) (et_is (et_B (ev_dinT (k := [.inr "a"]) (ev_var rfl) (ev_f BK rfl rfl rfl (by simp [FLD])) (at_ (j := 1) rfl))) rfl) (fun h => by cases h) fun _ => ws_next k
theorem ok_look_at_file (F : Mt K "look_at_file" 6 [] f fd) (m_look_at_there : MtD P w K mg base 2 C "look_at_there" (fThere C)) (m_is_file : MtD P w K mg base 1 C "is_file" (fIsFile C)) : FnOk P w K mg base (L2.CX P w) 3 f fd ["self", "path"] (spD K (fThere C)) := by
  refine fn_D F sc_look_at_file (fun xs st Φ Ψ h => ?_) (fun cdv A outer s H E hr => ⟨_, (pss_cons (ps_expr (pe_m m_look_at_there hr takesD (pv 0) (pa_cons (pv 1) pa_nil)))
      (pss_one (ps_if (pt_not (pt_val (pe_m m_is_file hr takesD (pv 0) (pa_cons (pv 1) pa_nil)))) (pss_one AL.ps_never) pss_nil))), fun b xs st Φ Ψ h hW => ?_⟩)
  · obtain ⟨_, _, _, _, rfl, _, ⟨_, rfl, _⟩, _⟩ := h
    rfl
  · obtain ⟨_, l, _, _, rfl, rfl, ⟨rfl, rfl, rfl⟩, k⟩ := h
    refine ws_sq (ws_drop (wx_of (ev_ask rfl rfl rfl (ea_cons (ev_var rfl) ea_nil) ⟨rfl, rfl, rfl⟩) ?_))
    exact ws_ifE (p := false) (et_is (et_not (et_B (ev_ask rfl rfl rfl (ea_cons (ev_var rfl) ea_nil) ⟨rfl, rfl, rfl⟩))) rfl) (fun h => by cases h) fun _ => ws_next k
def NEWS : List Str := ["make", "folder", "bring"]
theorem ok_look_at_path (F : Mt K "look_at_path" 7 [] f fd) (g_NEW : ∃ u, mg "NEW" = some u ∧ RelV (.ref NW) u) (TN : ∀ H, SqT K H NW (NEWS.map V.str)) (m_look_at_new : MtD P w K mg base 2 C "look_at_new" (fNew C)) (m_look_at_file : MtD P w K mg base 3 C "look_at_file" (fThere C)) : FnOk P w K mg base (L2.CX P w) 4 f fd ["self", "word", "path"] (spD K (fPathC C)) := by
  refine fn_D F sc_look_at_path (fun xs st Φ Ψ h => ?_) (fun cdv A outer s H E hr => ⟨_, (pss_cons (ps_if (t_inT (K := K) (pv 1) (C8.pe_gc rfl g_NEW)) (pss_cons (ps_expr (pe_m m_look_at_new hr takesD (pv 0) (pa_cons (pv 2) pa_nil)))
      (pss_one ps_retN)) pss_nil)
      (pss_cons (ps_if (t_inT (K := K) (pv 1) (pe_tup (pa_cons pe_str (pa_cons pe_str pa_nil)))) (pss_cons (ps_expr (pe_m m_look_at_file hr takesD (pv 0) (pa_cons (pv 2) pa_nil)))
      (pss_one ps_retN)) pss_nil)
      (pss_cons AL.ps_never
      (pss_cons AL.ps_never
      (pss_one AL.ps_never))))), fun b xs st Φ Ψ h hW => ?_⟩)
  · obtain ⟨_, _, _, _, rfl, _, ⟨⟨_, rfl⟩ | ⟨_, rfl⟩, _⟩, _⟩ := h <;> rfl
  · obtain ⟨_, l, _, _, rfl, rfl, ⟨⟨rfl, rfl⟩ | ⟨rfl, rfl⟩, rfl⟩, k⟩ := h
    · refine ws_guard (p := true) (et_test (ev_op (ev_var rfl) ev_raw (o_inKt TN (flat_strs _)))) (fun _ => ?_) (fun h => by cases h)
      exact ws_sq (ws_drop (wx_of (ev_ask rfl rfl rfl (ea_cons (ev_var rfl) ea_nil) ⟨rfl, rfl, rfl⟩) (ws_retN k)))
    · refine ws_guard (p := false) (et_test (ev_op (ev_var rfl) ev_raw (o_inKt TN (flat_strs _)))) (fun h => by cases h) (fun _ => ?_)
      refine ws_guard (p := true) (et_is (ev_inTup (ys := ["piece", "own"]) (ev_var rfl) (ea_cons ev_s (ea_cons ev_s ea_nil)) (by decide)) rfl) (fun _ => ?_) (fun h => by cases h)
      exact ws_sq (ws_drop (wx_of (ev_ask rfl rfl rfl (ea_cons (ev_var rfl) ea_nil) ⟨rfl, rfl, rfl⟩) (ws_retN k)))
theorem ok_is_fresh (BK : BkF K C) (F : Mt K "is_fresh" 9 [] f fd) (c_is_number : DefD P w K mg base 3 "is_number" fIsNumber1) : FnOk P w K mg base (L2.CX P w) 4 f fd ["self", "thing"] (spD K (fFresh C)) := by
  refine fn_D F sc_is_fresh (fun xs st Φ Ψ h => ?_) (fun cdv A outer s H E hr => ⟨_, (pss_one (ps_ret (pe_and (pe_f c_is_number hr takesD (pa_cons (pv 1) pa_nil)) (pe_and (x_lt (pv 1) (x_fld (K := K) (pv 0))) (pe_one (x_niD hr.units (pv 1) (x_fld (K := K) (pv 0)))))))), fun b xs st Φ Ψ h hW => ?_⟩)
  · obtain ⟨_, _, _, _, rfl, _, ⟨_, rfl, _⟩, _⟩ := h
    rfl
  · obtain ⟨_, l, _, _, rfl, rfl, ⟨rfl, rfl, rfl⟩, k⟩ := h
    exact ws_retE (ev_is (ev_andV (ev_cal rnil (ea_cons (ev_var rfl) ea_nil) ⟨1, rfl, rfl, rfl⟩) fun _ => ev_andV (ev_op (ev_var rfl) (ev_f BK rfl rfl rfl (by simp [FLD])) (o_Ib (f := fun i j => decide (i < j)) (i := 1) (j := 2))) fun _ => ev_dnotin (k := .inl 1) (ev_var rfl) (ev_f BK rfl rfl rfl (by simp [FLD])) (at_ (j := 4) rfl)) rfl) k
theorem ok_look_at_piece (BK : BkF K C) (F : Mt K "look_at_piece" 10 [] f fd) (c_is_number : DefD P w K mg base 3 "is_number" fIsNumber1) : FnOk P w K mg base (L2.CX P w) 4 f fd ["self", "thing"] (spD K (fPieceC C)) := by
  refine fn_D F sc_look_at_piece (fun xs st Φ Ψ h => ?_) (fun cdv A outer s H E hr => ⟨_, (pss_one (ps_if (PW.pt (pw_or (pt_not (pt_val (pe_f c_is_number hr takesD (pa_cons (pv 1) pa_nil)))) (pw_or1 (t_niD hr.units (pv 1) (x_fld (K := K) (pv 0)))))) (pss_one AL.ps_never) pss_nil)), fun b xs st Φ Ψ h hW => ?_⟩)
  · obtain ⟨_, _, _, _, rfl, _, ⟨_, rfl, _⟩, _⟩ := h
    rfl
  · obtain ⟨_, l, _, _, rfl, rfl, ⟨rfl | rfl, rfl, rfl⟩, k⟩ := h
    · exact ws_ifE (et_or (et_not (et_B (ev_cal rnil (ea_cons (ev_var rfl) ea_nil) ⟨1, rfl, rfl, rfl⟩))) fun _ => et_B (ev_dnotin (k := .inl 1) (ev_var rfl) (ev_f BK rfl rfl rfl (by simp [FLD])) (at_ (j := 9) rfl))) (fun h => by cases h) fun _ => ws_next k
    · exact ws_ifE (et_or (et_not (et_B (ev_cal rnil (ea_cons (ev_var rfl) ea_nil) ⟨1, rfl, rfl, rfl⟩))) fun _ => et_B (ev_dnotin (k := .inl 1) (ev_var rfl) (ev_f BK rfl rfl rfl (by simp [FLD])) (at_ (j := 10) rfl))) (fun h => by cases h) fun _ => ws_next k
theorem ok_look_at_numbers (F : Mt K "look_at_numbers" 11 [] f fd) (m_is_fresh : MtD P w K mg base 4 C "is_fresh" (fFresh C)) : FnOk P w K mg base (L2.CX P w) 5 f fd ["self", "word", "path", "rest"] (spD K (fNumbers C)) := by
  refine fn_D F sc_look_at_numbers (fun xs st Φ Ψ h => ?_) (fun cdv A outer s H E hr => ⟨_, (pss_cons (ps_if (PW.pt (pw_and (t_eq (K := K) hr.units (pv 1) pe_str) (pw_and1 (pt_not (pt_val AL.pe_never))))) (pss_one AL.ps_never) pss_nil)
      (pss_one (ps_if (PW.pt (pw_and (t_inT (K := K) (pv 1) (pe_tup (pa_cons pe_str (pa_cons pe_str pa_nil)))) (pw_and1 (pt_not (pt_val (pe_m m_is_fresh hr takesD (pv 0) (pa_cons (x_ix (K := K) (pv 3) (x_neg pe_int)) pa_nil))))))) (pss_one AL.ps_never) pss_nil))), fun b xs st Φ Ψ h hW => ?_⟩)
  · obtain ⟨_, _, _, _, rfl, _, ⟨⟨_, rfl⟩ | ⟨_, rfl⟩, _⟩, _⟩ := h <;> rfl
  · obtain ⟨_, l, _, _, rfl, rfl, ⟨⟨rfl, rfl⟩ | ⟨rfl, rfl⟩, rfl⟩, k⟩ := h
    · refine ws_guard (p := false) (et_is (et_and (q := true) (et_test (ev_op (ev_var rfl) ev_s o_eqS)) fun h => absurd h (by decide)) rfl) (fun h => by cases h) fun _ => ?_
      exact ws_ifE (p := false) (et_is (et_and (q := true) (ev_inTup (ys := ["piece", "own"]) (ev_var rfl) (ea_cons ev_s (ea_cons ev_s ea_nil)) (by decide)) fun h => absurd h (by decide)) rfl) (fun h => by cases h) fun _ => ws_next k
    · refine ws_guard (p := false) (et_is (et_and (q := true) (et_test (ev_op (ev_var rfl) ev_s o_eqS)) fun h => absurd h (by decide)) rfl) (fun h => by cases h) fun _ => ?_
      exact ws_ifE (p := false) (et_is (et_and (ev_inTup (ys := ["piece", "own"]) (ev_var rfl) (ea_cons ev_s (ea_cons ev_s ea_nil)) (by decide)) fun _ => et_not (et_B (ev_ask rfl rfl rfl (ea_cons (ev_op (ev_var rfl) (ev_neg ev_i) (o_ixL (x := .int 1) rfl)) ea_nil) ⟨rfl, rfl, rfl⟩))) rfl) (fun h => by cases h) fun _ => ws_next k
theorem ok_look_at_editions (BK : BkF K C) (F : Mt K "look_at_editions" 12 [] f fd) (c_is_whole : DefD P w K mg base 1 "is_whole" fIsWhole) (m_look_at_piece : MtD P w K mg base 4 C "look_at_piece" (fPieceC C)) : FnOk P w K mg base (L2.CX P w) 5 f fd ["self", "word", "number", "edition"] (spD K (fEditions C)) := by
  refine fn_D F sc_look_at_editions (fun xs st Φ Ψ h => ?_) (fun cdv A outer s H E hr => ⟨_, (pss_cons (ps_if (t_eq (K := K) hr.units (pv 1) pe_str) (pss_cons (ps_if (t_ne (K := K) hr.units (pv 2) (x_fld (K := K) (pv 0))) (pss_one AL.ps_never) pss_nil)
      (pss_one ps_retN)) pss_nil)
      (pss_cons (ps_expr (pe_m m_look_at_piece hr takesD (pv 0) (pa_cons (pv 2) pa_nil)))
      (pss_cons (ps_asg (x_dget hr.units (x_fld (K := K) (pv 0)) (pv 2)) (pg_tup rfl (pgs_cons (pg_name (i := 4) sc_look_at_editions.nd rfl (by first | exact Or.inl rfl | exact Or.inr rfl)) (pgs_cons (pg_name (i := 5) sc_look_at_editions.nd rfl (by first | exact Or.inl rfl | exact Or.inr rfl)) (pgs_cons (pg_name (i := 6) sc_look_at_editions.nd rfl (by first | exact Or.inl rfl | exact Or.inr rfl)) pgs_nil)))))
      (pss_cons (ps_set (i := 7) sc_look_at_editions.nd rfl (by first | exact Or.inl rfl | exact Or.inr rfl) (pe_ifExp (t_eq (K := K) hr.units (pv 1) pe_str) (x_add (K := K) (pv 5) pe_int) (pv 5)))
      (pss_one (ps_if (PW.pt (pw_or (pt_not (pt_val (pe_f c_is_whole hr takesD (pa_cons (pv 3) pa_nil)))) (pw_or (t_ne (K := K) hr.units (pv 3) (pv 7)) (pw_or1 (t_le (pv 3) (pv 4)))))) (pss_one AL.ps_never) pss_nil)))))), fun b xs st Φ Ψ h hW => ?_⟩)
  · obtain ⟨_, _, _, _, rfl, _, ⟨⟨_, rfl⟩ | ⟨_, rfl⟩ | ⟨_, rfl⟩, _⟩, _⟩ := h <;> rfl
  · obtain ⟨_, l, _, _, rfl, rfl, ⟨⟨rfl, rfl⟩ | ⟨rfl, rfl⟩ | ⟨rfl, rfl⟩, rfl⟩, k⟩ := h
    · refine ws_guard (p := true) (et_test (ev_op (ev_var rfl) ev_s o_eqS)) (fun _ => ?_) (fun h => by cases h)
      exact ws_guard (p := false) (et_is (et_test (ev_op (ev_var rfl) (ev_f BK rfl rfl rfl (by simp [FLD])) o_neI)) rfl) (fun h => by cases h) (fun _ => ws_retN k)
    · refine ws_guard (p := false) (et_test (ev_op (ev_var rfl) ev_s o_eqS)) (fun h => by cases h) (fun _ => ?_)
      refine ws_sq (ws_drop (wx_of (ev_ask rfl rfl rfl (ea_cons (ev_var rfl) ea_nil) ⟨Or.inl rfl, rfl, rfl⟩) ?_))
      refine ws_sq (ws_asgG (wx_of (ev_dget (k := .inl 1) (x := dT [.int 1, .int 1, .none]) (ev_f BK rfl rfl rfl (by simp [FLD])) (ev_var rfl) (at_ (j := 9) rfl) rfl) ⟨_, _, eg_tup (ds := [_, _, _]) (egs_cons eg_name (egs_cons eg_name (egs_cons eg_name egs_nil))) rfl, ?_⟩))
      refine ws_asgS (x := dI 2) (ev_if (p := true) (et_is (et_test (ev_op (ev_var rfl) ev_s o_eqS)) rfl) (fun _ => ev_op (ev_var rfl) ev_i (o_addI (i := 1) (j := 1))) fun h => by cases h) ?_
      exact ws_ifE (p := false) (et_is (et_or (et_not (et_B (ev_cal rnil (ea_cons (ev_var rfl) ea_nil) ⟨.int 2, rfl, rfl, rfl⟩))) fun _ => et_or (et_test (ev_op (ev_var rfl) (ev_var rfl) o_neI)) fun _ => et_test (ev_op (ev_var rfl) (ev_var rfl) o_leI)) rfl) (fun h => by cases h) fun _ => ws_next k
    · refine ws_guard (p := false) (et_test (ev_op (ev_var rfl) ev_s o_eqS)) (fun h => by cases h) (fun _ => ?_)
      refine ws_sq (ws_drop (wx_of (ev_ask rfl rfl rfl (ea_cons (ev_var rfl) ea_nil) ⟨Or.inr rfl, rfl, rfl⟩) ?_))
      refine ws_sq (ws_asgG (wx_of (ev_dget (k := .inl 1) (x := dT [.int 1, .int 2, .int 20]) (ev_f BK rfl rfl rfl (by simp [FLD])) (ev_var rfl) (at_ (j := 10) rfl) rfl) ⟨_, _, eg_tup (ds := [_, _, _]) (egs_cons eg_name (egs_cons eg_name (egs_cons eg_name egs_nil))) rfl, ?_⟩))
      refine ws_asgS (x := dI 2) (ev_if (p := false) (et_is (et_test (ev_op (ev_var rfl) ev_s o_eqS)) rfl) (fun h => by cases h) fun _ => ev_var rfl) ?_
      exact ws_ifE (p := false) (et_is (et_or (et_not (et_B (ev_cal rnil (ea_cons (ev_var rfl) ea_nil) ⟨.int 2, rfl, rfl, rfl⟩))) fun _ => et_or (et_test (ev_op (ev_var rfl) (ev_var rfl) o_neI)) fun _ => et_test (ev_op (ev_var rfl) (ev_var rfl) o_leI)) rfl) (fun h => by cases h) fun _ => ws_next k
def fl0 : PyData → Bool
  | .none => true
  | .bool _ => true
  | .int _ => true
  | .str z => decide (z.length ≤ 100000) && z.cps.toList.all fun c => decide (c < 1114112)
  | _ => false
def fl1 : PyData → Bool
  | .tuple ds => ds.all fl0
  | d => fl0 d
theorem fl0_ok (n : Nat) {d : PyData} (h : fl0 d = true) : Fl n d := by
  cases d with
  | str z =>
    simp only [fl0, Bool.and_eq_true, decide_eq_true_eq, List.all_eq_true] at h
    have h2 : okZ z := h
    cases n <;> exact h2
  | none => cases n <;> trivial
  | bool b => cases n <;> trivial
  | int i => cases n <;> trivial
  | _ => cases h
theorem fl1_ok (n : Nat) {d : PyData} (h : fl1 d = true) : Fl (n + 1) d := by
  cases d with
  | tuple ds => exact fun d hd => fl0_ok n (List.all_eq_true.mp h d hd)
  | _ => exact fl0_ok (n + 1) h
theorem ents_fl (k : Nat) (hk : k < 5) : Fl 3 (.tuple (ent k)) := by
  have : ∀ k < 5, (ent k).all fl1 = true := by decide +kernel
  exact fun d hd => fl1_ok 1 (List.all_eq_true.mp (this k hk) d hd)
theorem ents_ok : ∀ k < 5, isEntry (.tuple (ent k)) = true ∧ (ent k).length ≤ 4 := by decide +kernel
theorem ok_look_at (F : Mt K "look_at" 14 [] f fd) (B : BT mg) (c_is_entry : DefD P w K mg base 3 "is_entry" fIsEntry) (m_look_at_editions : MtD P w K mg base 5 C "look_at_editions" (fEditions C)) (m_look_at_path : MtD P w K mg base 4 C "look_at_path" (fPathC C)) (m_look_at_numbers : MtD P w K mg base 5 C "look_at_numbers" (fNumbers C)) : FnOk P w K mg base (L2.CX P w) 6 f fd ["self", "entry"] (spD K (fLookAt C)) := by
  refine fn_D F sc_look_at (fun xs st Φ Ψ h => ?_) (fun cdv A outer s H E hr => ⟨_, (pss_cons (ps_if (pt_not (pt_val (pe_f c_is_entry hr takesD (pa_cons (pv 1) pa_nil)))) (pss_one AL.ps_never) pss_nil)
      (pss_cons (ps_asg (pv 1) (pg_star (i := 1) rfl (pgs_cons (pg_name (i := 2) sc_look_at.nd rfl (by first | exact Or.inl rfl | exact Or.inr rfl)) (pgs_star (pg_name (i := 3) sc_look_at.nd rfl (by first | exact Or.inl rfl | exact Or.inr rfl)) pgs_nil))))
      (pss_one (ps_if (t_inT (K := K) (pv 2) (pe_tup (pa_cons pe_str (pa_cons pe_str (pa_cons pe_str pa_nil))))) (pss_one (ps_expr (pe_m m_look_at_editions hr takesD (pv 0) (pa_cons (pv 2) (pa_cons (x_ix (K := K) (pv 3) pe_int) (pa_cons (pe_ifExp (t_gt (x_len (K := K) B (pv 3)) pe_int) (x_ix (K := K) (pv 3) pe_int) pe_non) pa_nil)))))) (pss_one (ps_if (t_eq (K := K) hr.units (pv 2) pe_str) (pss_one AL.ps_never) (pss_one (ps_if (t_eq (K := K) hr.units (pv 2) pe_str) (pss_cons AL.ps_never
      (pss_one AL.ps_never)) (pss_cons (ps_expr (pe_m m_look_at_path hr takesD (pv 0) (pa_cons (pv 2) (pa_cons (x_ix (K := K) (pv 3) pe_int) pa_nil))))
      (pss_cons (ps_if (t_inT (K := K) (pv 2) (pe_tup (pa_cons pe_str (pa_cons pe_str pa_nil)))) (pss_cons AL.ps_never
      (pss_one AL.ps_never)) pss_nil)
      (pss_one (ps_expr (pe_m m_look_at_numbers hr takesD (pv 0) (pa_cons (pv 2) (pa_cons (x_ix (K := K) (pv 3) pe_int) (pa_cons (x_sl (K := K) (pv 3) (po_some pe_int) po_none) pa_nil)))))))))))))))), fun b xs st Φ Ψ h hW => ?_⟩)
  · obtain ⟨_, _, _, _, rfl, _, ⟨_, rfl, _⟩, _⟩ := h
    rfl
  · obtain ⟨kk, l, _, _, rfl, rfl, ⟨hk, rfl, rfl⟩, k⟩ := h
    obtain ⟨he, hn⟩ := ents_ok kk hk
    have hfl : Fl 3 (.tuple (ent kk)) := ents_fl kk hk
    refine ws_guard (p := false) (et_is (et_not (et_B (ev_cal rnil (ea_cons (ev_var rfl) ea_nil) ⟨_, 3, rfl, hfl, by decide, fun ds h => by cases h; omega, rfl, rfl⟩))) (by rw [he]; rfl)) (fun h => by cases h) fun _ => ?_
    match kk, hk with
    | 0, _ =>
      refine ws_sq (ws_star1 (wx_of (ev_var rfl) ⟨.str "make", [PA], Or.inr rfl, ?_⟩))
      refine ws_ifE (p := false) (et_is (ev_inTup (ys := ["number", "raise", "edition"]) (ev_var rfl) (ea_cons ev_s (ea_cons ev_s (ea_cons ev_s ea_nil))) (by decide)) rfl) (fun h => by cases h) fun _ => ?_
      refine ws_ifE (p := false) (et_is (et_test (ev_op (ev_var rfl) ev_s o_eqS)) rfl) (fun h => by cases h) fun _ => ?_
      refine ws_ifE (p := false) (et_is (et_test (ev_op (ev_var rfl) ev_s o_eqS)) rfl) (fun h => by cases h) fun _ => ?_
      refine ws_sq (ws_drop (wx_of (ev_ask rfl rfl rfl (ea_cons (ev_var rfl) (ea_cons (ev_op (ev_var rfl) ev_i (o_ixL (x := PA) rfl)) ea_nil)) ⟨Or.inl ⟨rfl, rfl⟩, rfl⟩) ?_))
      refine ws_guard (p := false) (et_is (ev_inTup (ys := ["move", "copy"]) (ev_var rfl) (ea_cons ev_s (ea_cons ev_s ea_nil)) (by decide)) rfl) (fun h => by cases h) fun _ => ?_
      exact ws_drop (wx_of (ev_ask rfl rfl rfl (ea_cons (ev_var rfl) (ea_cons (ev_op (ev_var rfl) ev_i (o_ixL (x := PA) rfl)) (ea_cons (ev_sl (ev_var rfl) (eo_some ev_i) eo_none (o_slL (xs := [PA]))) ea_nil))) ⟨Or.inl ⟨rfl, rfl⟩, rfl⟩) k)
    | 1, _ =>
      refine ws_sq (ws_star1 (wx_of (ev_var rfl) ⟨.str "number", [.int 1], Or.inr rfl, ?_⟩))
      refine ws_ifE (p := true) (et_is (ev_inTup (ys := ["number", "raise", "edition"]) (ev_var rfl) (ea_cons ev_s (ea_cons ev_s (ea_cons ev_s ea_nil))) (by decide)) rfl) (fun _ => ?_) (fun h => by cases h)
      exact ws_drop (wx_of (ev_ask rfl rfl rfl (ea_cons (ev_var rfl) (ea_cons (ev_op (ev_var rfl) ev_i (o_ixL (x := .int 1) rfl)) (ea_cons (ev_if (p := false) (x := dN) (et_is (et_test (ev_op (ev_lenL (xs := [.int 1]) (ev_var rfl)) ev_i o_Ib)) rfl) (fun h => by cases h) fun _ => ev_n) ea_nil))) ⟨Or.inl ⟨rfl, rfl⟩, rfl⟩) k)
    | 2, _ =>
      refine ws_sq (ws_star1 (wx_of (ev_var rfl) ⟨.str "piece", [PA, .int 1], Or.inr rfl, ?_⟩))
      refine ws_ifE (p := false) (et_is (ev_inTup (ys := ["number", "raise", "edition"]) (ev_var rfl) (ea_cons ev_s (ea_cons ev_s (ea_cons ev_s ea_nil))) (by decide)) rfl) (fun h => by cases h) fun _ => ?_
      refine ws_ifE (p := false) (et_is (et_test (ev_op (ev_var rfl) ev_s o_eqS)) rfl) (fun h => by cases h) fun _ => ?_
      refine ws_ifE (p := false) (et_is (et_test (ev_op (ev_var rfl) ev_s o_eqS)) rfl) (fun h => by cases h) fun _ => ?_
      refine ws_sq (ws_drop (wx_of (ev_ask rfl rfl rfl (ea_cons (ev_var rfl) (ea_cons (ev_op (ev_var rfl) ev_i (o_ixL (x := PA) rfl)) ea_nil)) ⟨Or.inr ⟨rfl, rfl⟩, rfl⟩) ?_))
      refine ws_guard (p := false) (et_is (ev_inTup (ys := ["move", "copy"]) (ev_var rfl) (ea_cons ev_s (ea_cons ev_s ea_nil)) (by decide)) rfl) (fun h => by cases h) fun _ => ?_
      exact ws_drop (wx_of (ev_ask rfl rfl rfl (ea_cons (ev_var rfl) (ea_cons (ev_op (ev_var rfl) ev_i (o_ixL (x := PA) rfl)) (ea_cons (ev_sl (ev_var rfl) (eo_some ev_i) eo_none (o_slL (xs := [PA, .int 1]))) ea_nil))) ⟨Or.inr ⟨rfl, rfl⟩, rfl⟩) k)
    | 3, _ =>
      refine ws_sq (ws_star1 (wx_of (ev_var rfl) ⟨.str "raise", [.int 1, .int 2, .int 20], Or.inr rfl, ?_⟩))
      refine ws_ifE (p := true) (et_is (ev_inTup (ys := ["number", "raise", "edition"]) (ev_var rfl) (ea_cons ev_s (ea_cons ev_s (ea_cons ev_s ea_nil))) (by decide)) rfl) (fun _ => ?_) (fun h => by cases h)
      exact ws_drop (wx_of (ev_ask rfl rfl rfl (ea_cons (ev_var rfl) (ea_cons (ev_op (ev_var rfl) ev_i (o_ixL (x := .int 1) rfl)) (ea_cons (ev_if (p := true) (x := dI 2) (et_is (et_test (ev_op (ev_lenL (xs := [.int 1, .int 2, .int 20]) (ev_var rfl)) ev_i o_Ib)) rfl) (fun _ => ev_op (ev_var rfl) ev_i (o_ixL (x := .int 2) rfl)) fun h => by cases h) ea_nil))) ⟨Or.inr (Or.inl ⟨rfl, rfl⟩), rfl⟩) k)
    | 4, _ =>
      refine ws_sq (ws_star1 (wx_of (ev_var rfl) ⟨.str "edition", [.int 1, .int 2, .int 20], Or.inr rfl, ?_⟩))
      refine ws_ifE (p := true) (et_is (ev_inTup (ys := ["number", "raise", "edition"]) (ev_var rfl) (ea_cons ev_s (ea_cons ev_s (ea_cons ev_s ea_nil))) (by decide)) rfl) (fun _ => ?_) (fun h => by cases h)
      exact ws_drop (wx_of (ev_ask rfl rfl rfl (ea_cons (ev_var rfl) (ea_cons (ev_op (ev_var rfl) ev_i (o_ixL (x := .int 1) rfl)) (ea_cons (ev_if (p := true) (x := dI 2) (et_is (et_test (ev_op (ev_lenL (xs := [.int 1, .int 2, .int 20]) (ev_var rfl)) ev_i o_Ib)) rfl) (fun _ => ev_op (ev_var rfl) ev_i (o_ixL (x := .int 2) rfl)) fun h => by cases h) ea_nil))) ⟨Or.inr (Or.inr ⟨rfl, rfl⟩), rfl⟩) k)
end
end K67

set_option Elab.async false
set_option linter.all false
set_option maxRecDepth 100000
set_option maxHeartbeats 4000000
namespace K67
open PySem PySem.Spec PyProof.Rows L2 AL
open TX (Fl okZ)
/-! ### a book: what an entry does -/
/-- the store behind note_piece -/
def mid (C : Addr) (n : Nat) : Nat → Sto
  | 1 => [.ins C (insF n 2 7), .dt (tr1 n), .dk [], .dk [], .dk [], .lst (ents 1), .lst [], .dk []]
  | 2 => [.ins C (insF n 2 8), .dt (tr1 n), .dk [], .dk [], .dk [(.inl 1, dB true)], .lst (ents 2), .lst [dI 1], .dk [], .dk (rw3 1 1 .none)]
  | 3 => [.ins C (insF n 2 9), .dt (tr1 n), .dk [], .dk [], .dk [(.inl 1, dB true)], .lst (ents 3), .lst [dI 1], .dk [], .dk (rw3 1 1 .none), .dk (rw3 1 2 (.int 20))]
  | _ => [.ins C (insF n 2 10), .dt (tr1 n), .dk [], .dk [], .dk [(.inl 1, dB true)], .lst (ents 4), .lst [dI 1], .dk [], .dk (rw3 1 1 .none), .dk (rw3 1 2 (.int 20)), .dk (rw3 2 2 (.int 20))]
def fNotePiece (C : Addr) : DS := fun xs st Φ _ => ∃ k l as, xs = .o l.length :: as ∧ st = l ++ bk C l.length k ∧ ((k = 1 ∧ as = [dS "number", dL [.int 1]]) ∨ (k = 2 ∧ as = [dS "piece", dL [PA, .int 1]]) ∨ (k = 3 ∧ as = [dS "raise", dL [.int 1, .int 2, .int 20]]) ∨ (k = 4 ∧ as = [dS "edition", dL [.int 1, .int 2, .int 20]])) ∧ Φ dN (l ++ mid C l.length k)
def fNote (C : Addr) : DS := fun xs st Φ _ => ∃ k l, xs = [.o l.length, dT (ent k)] ∧ st = l ++ bk C l.length k ∧ k < 5 ∧ Φ dN (l ++ bk C l.length (k + 1))
def fNoteOne (C : Addr) : DS := fun xs st Φ _ => ∃ k l, xs = [.o l.length, dI (k : Nat), dT (ent k)] ∧ st = l ++ bk C l.length k ∧ k < 5 ∧ Φ dN (l ++ bk C l.length (k + 1))
def LOG : List PyData := (List.range 5).map fun i => .tuple (ent i)
def fInit (C : Addr) : DS := fun xs st Φ _ => ∃ l, xs = [.o l.length, dL LOG] ∧ st = l ++ [.ins C []] ∧ Φ dN (l ++ bk C l.length 5)
def fEntries (C : Addr) : DS := fun xs st Φ _ => ∃ l m, xs = [.o l.length] ∧ st = l ++ (bk C l.length 5 ++ m) ∧ Φ (dL LOG) st
section
variable {P : Program} {w : World} {K : PySem.W.Frag} {mg : Str → Option Value} {base : Heap} {f d C NW : Addr} {fd : FuncData}
theorem sc_note_piece : FnScope ["self", "word", "rest", "pieces", "number", "edition", "end", "newest", "used", "elder"] ["self", "word", "rest"] (defScope (mt 20)) := C8.fnScope_by (by decide +kernel)
theorem sc_note : FnScope ["self", "entry", "word", "rest"] ["self", "entry"] (defScope (mt 17)) := C8.fnScope_by (by decide +kernel)
theorem sc_note_one : FnScope ["self", "number", "entry", "why"] ["self", "number", "entry"] (defScope (mt 1)) := C8.fnScope_by (by decide +kernel)
theorem sc_init__ : FnScope ["self", "entries", "number", "entry"] ["self", "entries"] (defScope (mt 0)) := C8.fnScope_by (by decide +kernel)
theorem sc_entries : FnScope ["self"] ["self"] (defScope (mt 36)) := C8.fnScope_by (by decide +kernel)
theorem sc_all_lists : FnScope ["self", "found", "pieces", "path", "time"] ["self"] (defScope (mt 21)) := C8.fnScope_by (by decide +kernel)
theorem sc_forget : FnScope ["self", "there", "pieces", "number", "row"] ["self"] (defScope (mt 22)) := C8.fnScope_by (by decide +kernel)
theorem ok_all_lists (F : Mt K "all_lists" 21 [] f fd) : FnOk P w K mg base (L2.CX P w) 1 f fd ["self"] (spAll K C) := by
  refine F.ok sc_all_lists (fun vs H Q E h => ?_) (fun cdv A outer s H vs Q E hr h => ⟨_, (pss_cons (ps_setLcK (i := 1) (own := [("pieces", 2)]) (g := gName 2) rfl sc_all_lists.nd rfl rfl (sw_true rfl rfl rfl rfl) (pi_valuesT (x_fld (K := K) (pv 0))) (blkOk_by (N := ["self", "found", "pieces", "path", "time"]) (sc := defScope (mt 21)) (by decide +kernel)) (fun _ _ _ _ _ => pg_name (i := 2) sc_all_lists.nd rfl (by first | exact Or.inl rfl | exact Or.inr rfl)) (fun _ _ _ _ _ => (pts_one (t_notN (pv 2) pe_non))) (fun _ _ _ _ _ => (pv 2)))
      (pss_one (ps_ret (x_add (K := K) (pv 1) (pe_lock (pe_lc (own := [("path", 3), ("time", 4), ("pieces", 2)]) (g := gTup K 3 (gCons (gName 3) (gCons (gName 4) (gCons (gName 2) gNil)))) (tt := tYes) rfl sc_all_lists.nd (pi_values (x_fld (K := K) (pv 0))) (blkOk_by (N := ["self", "found", "pieces", "path", "time"]) (sc := defScope (mt 21)) (by decide +kernel)) (fun _ _ _ _ _ => pg_tup rfl (pgs_cons (pg_name (i := 3) sc_all_lists.nd rfl (by first | exact Or.inl rfl | exact Or.inr rfl)) (pgs_cons (pg_name (i := 4) sc_all_lists.nd rfl (by first | exact Or.inl rfl | exact Or.inr rfl)) (pgs_cons (pg_name (i := 2) sc_all_lists.nd rfl (by first | exact Or.inl rfl | exact Or.inr rfl)) pgs_nil)))) (fun _ _ _ _ _ => pts_nil) (fun _ _ _ _ _ => (pv 2)))))))), run_all (f5 := "") h⟩)
  obtain ⟨_, _, _, _, _, rfl, _⟩ := h
  rfl
theorem ok_forget (F : Mt K "forget" 22 [] f fd) (m_all_lists : MethOk P w K mg base 1 C "all_lists" [] (spAll K C)) : FnOk P w K mg base (L2.CX P w) 2 f fd ["self"] (spForget K C) := by
  refine F.ok sc_forget (fun vs H Q E h => ?_) (fun cdv A outer s H vs Q E hr h => ⟨_, (pss_cons (ps_set (i := 1) sc_forget.nd rfl (by first | exact Or.inl rfl | exact Or.inr rfl) (pe_dc2 (own := [("pieces", 2), ("number", 3)]) (vs1 := [3]) (g := gName 2) (tt := tYes) (g1 := gName 3) (tt1 := tYes) rfl sc_forget.nd (pi_list (pe_m0 m_all_lists hr takesD (pv 0))) (blkOk_by (N := ["self", "there", "pieces", "number", "row"]) (sc := defScope (mt 22)) (by decide +kernel)) (by decide)
      (fun _ _ _ _ _ => pg_name (i := 2) sc_forget.nd rfl (by first | exact Or.inl rfl | exact Or.inr rfl)) (fun _ _ _ _ _ => pts_nil) (fun _ _ _ _ _ => (pi_list (pv 2))) (fun _ _ _ _ _ => pg_name (i := 3) sc_forget.nd rfl (by first | exact Or.inl rfl | exact Or.inr rfl)) (fun _ _ _ _ _ => pts_nil) (fun _ _ _ _ _ => (pv 3)) (fun _ _ _ _ _ => pe_bl)))
      (pss_one (x_fset (K := K) (f := "rows") (pv 0) (pe_lock (pe_dc (own := [("number", 3), ("row", 4)]) (g := gTup K 2 (gCons (gName 3) (gCons (gName 4) gNil))) rfl sc_forget.nd (pi_items (x_fld (K := K) (pv 0))) (blkOk_by (N := ["self", "there", "pieces", "number", "row"]) (sc := defScope (mt 22)) (by decide +kernel)) (fun _ _ _ _ _ => pg_tup rfl (pgs_cons (pg_name (i := 3) sc_forget.nd rfl (by first | exact Or.inl rfl | exact Or.inr rfl)) (pgs_cons (pg_name (i := 4) sc_forget.nd rfl (by first | exact Or.inl rfl | exact Or.inr rfl)) pgs_nil))) (fun _ _ _ _ _ => (pts_one (t_inD hr.units (pv 3) (pv 1)))) (fun _ _ _ _ _ => (pv 3)) (fun _ _ _ _ _ => (pv 4))))))), run_forget (f5 := "") h⟩)
  obtain ⟨_, _, _, _, _, _, _, _, _, rfl, _⟩ := h
  rfl
theorem forget_bk (BK : BkF K C) {b : Cf} {sl : Sl} {l m : Sto} {nx : Int} {r : Nat} {ns : List Int} {rw : List (Key × AV)} {W : WX} {Φ : AV → Sto → Prop} (h : sl[0]? = some (some (.o l.length))) (h0 : m[0]? = some (.ins C (insF l.length nx r))) (h1 : m[1]? = some (.dt (tr1 l.length))) (h2 : m[2]? = some (.dk [])) (h6 : m[6]? = some (.lst (ns.map fun i => dI i))) (hr : m[r]? = some (.dk rw)) (hl : rw.length ≤ 1000) (hn : ns.length ≤ 1000)
    (k : Φ dN (l ++ (m.set 0 (.ins C (insF l.length nx m.length)) ++ [.dk (keepA (keysN [ns]) rw)]))) : Wx K b (tMetW C "forget" (spForget K C) [] W (tVar 0) tNil) sl (l ++ m) Φ := by
  refine wx_forget (n := l.length) (T := l.length + 1) (A := l.length + 2) (R := l.length + r) (LsI := [(l.length + 6, ns)]) (tr := tr1 l.length) (rw := rw) (ev_var h) (at_ (j := 0) h0) BK.cl (BK.na _ (by simp [FLD])) (BK.na _ (by simp [FLD])) (BK.na _ (by simp [FLD])) rfl rfl rfl rfl rfl (at_ h1) (at_ h2) (at_ hr) (by simp [insF]) (by simp [tr1]) hl ?_ rfl ?_ ?_ ?_
  · intro p hp
    simp only [tr1, List.mem_cons, List.not_mem_nil, or_false] at hp
    rcases hp with rfl | rfl
    · exact Or.inl rfl
    · exact Or.inr ⟨_, rfl⟩
  · intro p hp
    rw [List.mem_singleton.mp hp]
    exact at_ h6
  · show ns.length + 0 ≤ _
    omega
  · have e1 : (l ++ m).length = l.length + m.length := List.length_append ..
    have e2 : (l ++ m).set l.length (.ins C (insF l.length nx m.length)) = l ++ m.set 0 (.ins C (insF l.length nx m.length)) := set_ (j := 0)
    have e3 : putFA "rows" (.o (l.length + m.length)) (insF l.length nx r) = insF l.length nx m.length := rfl
    rw [e1, e3, e2, List.append_assoc]
    exact k
theorem ok_note_piece (BK : BkF K C) (F : Mt K "note_piece" 20 [] f fd) : FnOk P w K mg base (L2.CX P w) 1 f fd ["self", "word", "rest"] (spD K (fNotePiece C)) := by
  refine fn_D F sc_note_piece (fun xs st Φ Ψ h => ?_) (fun cdv A outer s H E hr => ⟨_, (pss_one (ps_if (t_eq (K := K) hr.units (pv 1) pe_str) (pss_one (x_faug (K := K) (f := "next") (pv 0) pe_int)) (pss_one (ps_if (t_inT (K := K) (pv 1) (pe_tup (pa_cons pe_str (pa_cons pe_str pa_nil)))) (pss_cons (ps_set (i := 3) sc_note_piece.nd rfl (by first | exact Or.inl rfl | exact Or.inr rfl) (x_dget hr.units (x_fld (K := K) (pv 0)) (x_ix (K := K) (pv 2) pe_int)))
      (pss_cons (ps_if (t_eq (K := K) hr.units (pv 1) pe_str) (pss_one (ps_expr (x_app (K := K) (pv 3) (pa_cons (x_ix (K := K) (pv 2) pe_int) pa_nil)))) (pss_one AL.ps_never))
      (pss_cons (ps_dput (Nat.lt_of_le_of_lt (Nat.add_le_add_left (by decide) _) hr.units) (x_fld (K := K) (pv 0)) (x_ix (K := K) (pv 2) (x_neg pe_int)) (pe_tup (pa_cons pe_int (pa_cons pe_int (pa_cons pe_non pa_nil)))) rfl)
      (pss_one (ps_dput (Nat.lt_of_le_of_lt (Nat.add_le_add_left (by decide) _) hr.units) (x_fld (K := K) (pv 0)) (x_ix (K := K) (pv 2) (x_neg pe_int)) pe_bl rfl))))) (pss_cons (ps_asg (pv 2) (pg_lst rfl (pgs_cons (pg_name (i := 4) sc_note_piece.nd rfl (by first | exact Or.inl rfl | exact Or.inr rfl)) (pgs_cons (pg_name (i := 5) sc_note_piece.nd rfl (by first | exact Or.inl rfl | exact Or.inr rfl)) (pgs_cons (pg_name (i := 6) sc_note_piece.nd rfl (by first | exact Or.inl rfl | exact Or.inr rfl)) pgs_nil)))))
      (pss_cons (ps_asg (x_dget hr.units (x_fld (K := K) (pv 0)) (pv 4)) (pg_tup rfl (pgs_cons (pg_name (i := 7) sc_note_piece.nd rfl (by first | exact Or.inl rfl | exact Or.inr rfl)) (pgs_cons (pg_name (i := 8) sc_note_piece.nd rfl (by first | exact Or.inl rfl | exact Or.inr rfl)) (pgs_cons (pg_name (i := 9) sc_note_piece.nd rfl (by first | exact Or.inl rfl | exact Or.inr rfl)) pgs_nil)))))
      (pss_one (ps_if (t_eq (K := K) hr.units (pv 1) pe_str) (pss_one (ps_dput (Nat.lt_of_le_of_lt (Nat.add_le_add_left (by decide) _) hr.units) (x_fld (K := K) (pv 0)) (pv 4) (pe_tup (pa_cons (pv 5) (pa_cons (pv 8) (pa_cons (pv 6) pa_nil)))) rfl)) (pss_one (ps_if (PW.pt (pw_and (t_notN (pv 6) pe_non) (pw_and1 (PW.pt (pw_or (t_isN (pv 9) pe_non) (pw_or1 (t_lt (pv 9) (pv 6)))))))) (pss_one (ps_dput (Nat.lt_of_le_of_lt (Nat.add_le_add_left (by decide) _) hr.units) (x_fld (K := K) (pv 0)) (pv 4) (pe_tup (pa_cons (pv 7) (pa_cons (pv 5) (pa_cons (pv 6) pa_nil)))) rfl)) (pss_one AL.ps_never))))))))))), fun b xs st Φ Ψ h hW => ?_⟩)
  · obtain ⟨_, _, _, rfl, _, ⟨_, rfl⟩ | ⟨_, rfl⟩ | ⟨_, rfl⟩ | ⟨_, rfl⟩, _⟩ := h <;> rfl
  · obtain ⟨_, l, _, rfl, rfl, ⟨rfl, rfl⟩ | ⟨rfl, rfl⟩ | ⟨rfl, rfl⟩ | ⟨rfl, rfl⟩, k⟩ := h
    · refine ws_ifE (p := true) (et_is (et_test (ev_op (ev_var rfl) ev_s o_eqS)) rfl) (fun _ => ?_) (fun h => by cases h)
      exact ws_faug (i := 1) (j := 1) BK.cl (BK.na _ (by simp [FLD])) (ev_var rfl) (at_ (j := 0) rfl) rfl ev_i (by simp [insF]) (cast (congrArg (Φ dN) (set_ (j := 0)).symm) k)
    · refine ws_ifE (p := false) (et_is (et_test (ev_op (ev_var rfl) ev_s o_eqS)) rfl) (fun h => by cases h) fun _ => ?_
      refine ws_ifE (p := true) (et_is (ev_inTup (ys := ["piece", "own"]) (ev_var rfl) (ea_cons ev_s (ea_cons ev_s ea_nil)) (by decide)) rfl) (fun _ => ?_) (fun h => by cases h)
      refine ws_asgS (x := .o (l.length + 6)) (ev_dgetT (k := [.inr "a"]) (ev_f BK rfl rfl rfl (by simp [FLD])) (ev_op (ev_var rfl) ev_i (o_ixL (x := PA) rfl)) (at_ (j := 1) rfl) rfl) ?_
      refine ws_sq (ws_ifE (p := true) (et_is (et_test (ev_op (ev_var rfl) ev_s o_eqS)) rfl) (fun _ => ?_) (fun h => by cases h))
      refine ws_app (ev_var rfl) (wx_of (ev_op (ev_var rfl) ev_i (o_ixL (x := .int 1) rfl)) ⟨[], at_ (j := 6) rfl, by decide, ?_⟩) ⟨_, at_ (j := 6) rfl⟩
      rw [set_ (j := 6)]
      refine ws_sq (ws_dput (wx_of (ev_tup (ds := [.int 1, .int 1, .none]) (ea_cons ev_i (ea_cons ev_i (ea_cons ev_n ea_nil))) (by decide)) ⟨.inl 1, [], ev_f BK rfl rfl rfl (by simp [FLD]), ev_op (ev_var rfl) (ev_neg ev_i) (o_ixL (x := .int 1) rfl), at_ (j := 8) rfl, by decide, ?_⟩))
      rw [set_ (j := 8)]
      refine ws_dput (wx_of ev_b ⟨.inl 1, [], ev_f BK rfl rfl rfl (by simp [FLD]), ev_op (ev_var rfl) (ev_neg ev_i) (o_ixL (x := .int 1) rfl), at_ (j := 4) rfl, by decide, ?_⟩)
      rw [set_ (j := 4)]
      exact k
    · refine ws_ifE (p := false) (et_is (et_test (ev_op (ev_var rfl) ev_s o_eqS)) rfl) (fun h => by cases h) fun _ => ?_
      refine ws_ifE (p := false) (et_is (ev_inTup (ys := ["piece", "own"]) (ev_var rfl) (ea_cons ev_s (ea_cons ev_s ea_nil)) (by decide)) rfl) (fun h => by cases h) (fun _ => ?_)
      refine ws_sq (ws_asgG (wx_of (ev_var rfl) ⟨_, _, eg_lst (ds := [_, _, _]) (egs_cons eg_name (egs_cons eg_name (egs_cons eg_name egs_nil))) rfl, ?_⟩))
      refine ws_sq (ws_asgG (wx_of (ev_dget (k := .inl 1) (x := dT [.int 1, .int 1, .none]) (ev_f BK rfl rfl rfl (by simp [FLD])) (ev_var rfl) (at_ (j := 9) rfl) rfl) ⟨_, _, eg_tup (ds := [_, _, _]) (egs_cons eg_name (egs_cons eg_name (egs_cons eg_name egs_nil))) rfl, ?_⟩))
      refine ws_ifE (p := false) (et_is (et_test (ev_op (ev_var rfl) ev_s o_eqS)) rfl) (fun h => by cases h) (fun _ => ?_)
      refine ws_ifE (p := true) (et_is (et_and (et_test (ev_op (ev_var rfl) ev_n (o_notN (x := .int 20)))) fun _ => et_or (q := true) (et_test (ev_op (ev_var rfl) ev_n (o_isN (x := .none)))) fun h => absurd h (by decide)) rfl) (fun _ => ?_) (fun h => by cases h)
      refine ws_dput (wx_of (ev_tup (ds := [.int 1, .int 2, .int 20]) (ea_cons (ev_var rfl) (ea_cons (ev_var rfl) (ea_cons (ev_var rfl) ea_nil))) (by decide)) ⟨.inl 1, rw3 1 1 .none, ev_f BK rfl rfl rfl (by simp [FLD]), ev_var rfl, at_ (j := 9) rfl, by decide, ?_⟩)
      rw [set_ (j := 9)]
      exact k
    · refine ws_ifE (p := false) (et_is (et_test (ev_op (ev_var rfl) ev_s o_eqS)) rfl) (fun h => by cases h) fun _ => ?_
      refine ws_ifE (p := false) (et_is (ev_inTup (ys := ["piece", "own"]) (ev_var rfl) (ea_cons ev_s (ea_cons ev_s ea_nil)) (by decide)) rfl) (fun h => by cases h) (fun _ => ?_)
      refine ws_sq (ws_asgG (wx_of (ev_var rfl) ⟨_, _, eg_lst (ds := [_, _, _]) (egs_cons eg_name (egs_cons eg_name (egs_cons eg_name egs_nil))) rfl, ?_⟩))
      refine ws_sq (ws_asgG (wx_of (ev_dget (k := .inl 1) (x := dT [.int 1, .int 2, .int 20]) (ev_f BK rfl rfl rfl (by simp [FLD])) (ev_var rfl) (at_ (j := 10) rfl) rfl) ⟨_, _, eg_tup (ds := [_, _, _]) (egs_cons eg_name (egs_cons eg_name (egs_cons eg_name egs_nil))) rfl, ?_⟩))
      refine ws_ifE (p := true) (et_is (et_test (ev_op (ev_var rfl) ev_s o_eqS)) rfl) (fun _ => ?_) (fun h => by cases h)
      refine ws_dput (wx_of (ev_tup (ds := [.int 2, .int 2, .int 20]) (ea_cons (ev_var rfl) (ea_cons (ev_var rfl) (ea_cons (ev_var rfl) ea_nil))) (by decide)) ⟨.inl 1, rw3 1 2 (.int 20), ev_f BK rfl rfl rfl (by simp [FLD]), ev_var rfl, at_ (j := 10) rfl, by decide, ?_⟩)
      rw [set_ (j := 10)]
      exact k
theorem ok_note (BK : BkF K C) (F : Mt K "note" 17 [] f fd) (m_look_at : MtD P w K mg base 6 C "look_at" (fLookAt C)) (m_note_piece : MtD P w K mg base 1 C "note_piece" (fNotePiece C)) (m_forget : MethOk P w K mg base 2 C "forget" [] (spForget K C)) : FnOk P w K mg base (L2.CX P w) 7 f fd ["self", "entry"] (spD K (fNote C)) := by
  refine fn_D F sc_note (fun xs st Φ Ψ h => ?_) (fun cdv A outer s H E hr => ⟨_, (pss_cons (ps_expr (pe_m m_look_at hr takesD (pv 0) (pa_cons (pv 1) pa_nil)))
      (pss_cons (ps_asg (pv 1) (pg_star (i := 1) rfl (pgs_cons (pg_name (i := 2) sc_note.nd rfl (by first | exact Or.inl rfl | exact Or.inr rfl)) (pgs_star (pg_name (i := 3) sc_note.nd rfl (by first | exact Or.inl rfl | exact Or.inr rfl)) pgs_nil))))
      (pss_cons (ps_if (t_inT (K := K) (pv 2) (pe_tup (pa_cons pe_str (pa_cons pe_str pa_nil)))) (pss_one (ps_dput (Nat.lt_of_le_of_lt (Nat.add_le_add_left (by decide) _) hr.units) (x_fld (K := K) (pv 0)) (x_ix (K := K) (pv 3) pe_int) (pe_ifExp (t_eq (K := K) hr.units (pv 2) pe_str) (pe_lst pa_nil) pe_non) rfl)) (pss_one (ps_if (t_inT (K := K) (pv 2) (pe_tup (pa_cons pe_str (pa_cons pe_str pa_nil)))) (pss_one AL.ps_never) (pss_one (ps_if (t_inT (K := K) (pv 2) (pe_tup (pa_cons pe_str (pa_cons pe_str (pa_cons pe_str pa_nil))))) (pss_one AL.ps_never) (pss_one (ps_expr (pe_m m_note_piece hr takesD (pv 0) (pa_cons (pv 2) (pa_cons (pv 3) pa_nil))))))))))
      (pss_cons (ps_expr (x_app (K := K) (x_fld (K := K) (pv 0)) (pa_cons (pv 1) pa_nil)))
      (pss_one (ps_expr (pe_m0 m_forget hr takesD (pv 0)))))))), fun b xs st Φ Ψ h hW => ?_⟩)
  · obtain ⟨_, _, rfl, _⟩ := h
    rfl
  · obtain ⟨kk, l, rfl, rfl, hk, k⟩ := h
    match kk, hk with
    | 0, hk =>
      refine ws_sq (ws_drop (wx_of (ev_ask rfl rfl rfl (ea_cons (ev_var rfl) ea_nil) ⟨hk, rfl, rfl⟩) ?_))
      refine ws_sq (ws_star1 (wx_of (ev_var rfl) ⟨.str "make", [PA], Or.inr rfl, ?_⟩))
      refine ws_sq (ws_ifE (p := true) (et_is (ev_inTup (ys := ["make", "folder"]) (ev_var rfl) (ea_cons ev_s (ea_cons ev_s ea_nil)) (by decide)) rfl) (fun _ => ?_) (fun h => by cases h))
      have e1 : (l ++ bk C l.length 0).length = l.length + 6 := List.length_append ..
      have e2 : (l ++ bk C l.length 0) ++ [AO.lst []] = l ++ (bk C l.length 0 ++ [AO.lst []]) := List.append_assoc ..
      refine ws_dputT (wx_ifE (p := true) (et_is (et_test (ev_op (ev_var rfl) ev_s o_eqS)) rfl) (fun _ => wx_lst ea_nil (by decide) ?_) (fun h => by cases h))
      rw [e1, e2]
      refine ⟨l.length + 1, [.inr "a"], [([], dN)], ev_f BK rfl rfl rfl (by simp [FLD]), ev_op (ev_var rfl) ev_i (o_ixL (x := PA) rfl), at_ (j := 1) rfl, by decide, ?_⟩
      rw [set_ (j := 1)]
      refine ws_sq (ws_app (ev_f BK rfl rfl rfl (by simp [FLD])) (wx_of (ev_var rfl) ⟨[], at_ (j := 5) rfl, by decide, ?_⟩) ⟨_, at_ (j := 5) rfl⟩)
      rw [set_ (j := 5)]
      exact ws_drop (forget_bk BK (ns := []) (rw := []) rfl rfl rfl rfl rfl rfl (by decide) (by decide) k)
    | 1, hk =>
      refine ws_sq (ws_drop (wx_of (ev_ask rfl rfl rfl (ea_cons (ev_var rfl) ea_nil) ⟨hk, rfl, rfl⟩) ?_))
      refine ws_sq (ws_star1 (wx_of (ev_var rfl) ⟨.str "number", [.int 1], Or.inr rfl, ?_⟩))
      refine ws_sq (ws_ifE (p := false) (et_is (ev_inTup (ys := ["make", "folder"]) (ev_var rfl) (ea_cons ev_s (ea_cons ev_s ea_nil)) (by decide)) rfl) (fun h => by cases h) (fun _ => ?_))
      refine ws_ifE (p := false) (et_is (ev_inTup (ys := ["move", "copy"]) (ev_var rfl) (ea_cons ev_s (ea_cons ev_s ea_nil)) (by decide)) rfl) (fun h => by cases h) (fun _ => ?_)
      refine ws_ifE (p := false) (et_is (ev_inTup (ys := ["drop", "bring", "clear"]) (ev_var rfl) (ea_cons ev_s (ea_cons ev_s (ea_cons ev_s ea_nil))) (by decide)) rfl) (fun h => by cases h) (fun _ => ?_)
      refine ws_drop (wx_met hW rnil (ev_var rfl) (at_ (j := 0) rfl) rfl (wa_of (ea_cons (ev_var rfl) (ea_cons (ev_var rfl) ea_nil)) ⟨1, l, _, rfl, rfl, Or.inl ⟨rfl, rfl⟩, ?_⟩))
      refine ws_sq (ws_app (ev_f BK rfl rfl rfl (by simp [FLD])) (wx_of (ev_var rfl) ⟨ents 1, at_ (j := 5) rfl, by decide, ?_⟩) ⟨_, at_ (j := 5) rfl⟩)
      rw [set_ (j := 5)]
      exact ws_drop (forget_bk BK (ns := []) (rw := []) rfl rfl rfl rfl rfl rfl (by decide) (by decide) k)
    | 2, hk =>
      refine ws_sq (ws_drop (wx_of (ev_ask rfl rfl rfl (ea_cons (ev_var rfl) ea_nil) ⟨hk, rfl, rfl⟩) ?_))
      refine ws_sq (ws_star1 (wx_of (ev_var rfl) ⟨.str "piece", [PA, .int 1], Or.inr rfl, ?_⟩))
      refine ws_sq (ws_ifE (p := false) (et_is (ev_inTup (ys := ["make", "folder"]) (ev_var rfl) (ea_cons ev_s (ea_cons ev_s ea_nil)) (by decide)) rfl) (fun h => by cases h) (fun _ => ?_))
      refine ws_ifE (p := false) (et_is (ev_inTup (ys := ["move", "copy"]) (ev_var rfl) (ea_cons ev_s (ea_cons ev_s ea_nil)) (by decide)) rfl) (fun h => by cases h) (fun _ => ?_)
      refine ws_ifE (p := false) (et_is (ev_inTup (ys := ["drop", "bring", "clear"]) (ev_var rfl) (ea_cons ev_s (ea_cons ev_s (ea_cons ev_s ea_nil))) (by decide)) rfl) (fun h => by cases h) (fun _ => ?_)
      refine ws_drop (wx_met hW rnil (ev_var rfl) (at_ (j := 0) rfl) rfl (wa_of (ea_cons (ev_var rfl) (ea_cons (ev_var rfl) ea_nil)) ⟨2, l, _, rfl, rfl, Or.inr (Or.inl ⟨rfl, rfl⟩), ?_⟩))
      refine ws_sq (ws_app (ev_f BK rfl rfl rfl (by simp [FLD])) (wx_of (ev_var rfl) ⟨ents 2, at_ (j := 5) rfl, by decide, ?_⟩) ⟨_, at_ (j := 5) rfl⟩)
      rw [set_ (j := 5)]
      exact ws_drop (forget_bk BK (ns := [1]) (rw := rw3 1 1 .none) rfl rfl rfl rfl rfl rfl (by decide) (by decide) k)
    | 3, hk =>
      refine ws_sq (ws_drop (wx_of (ev_ask rfl rfl rfl (ea_cons (ev_var rfl) ea_nil) ⟨hk, rfl, rfl⟩) ?_))
      refine ws_sq (ws_star1 (wx_of (ev_var rfl) ⟨.str "raise", [.int 1, .int 2, .int 20], Or.inr rfl, ?_⟩))
      refine ws_sq (ws_ifE (p := false) (et_is (ev_inTup (ys := ["make", "folder"]) (ev_var rfl) (ea_cons ev_s (ea_cons ev_s ea_nil)) (by decide)) rfl) (fun h => by cases h) (fun _ => ?_))
      refine ws_ifE (p := false) (et_is (ev_inTup (ys := ["move", "copy"]) (ev_var rfl) (ea_cons ev_s (ea_cons ev_s ea_nil)) (by decide)) rfl) (fun h => by cases h) (fun _ => ?_)
      refine ws_ifE (p := false) (et_is (ev_inTup (ys := ["drop", "bring", "clear"]) (ev_var rfl) (ea_cons ev_s (ea_cons ev_s (ea_cons ev_s ea_nil))) (by decide)) rfl) (fun h => by cases h) (fun _ => ?_)
      refine ws_drop (wx_met hW rnil (ev_var rfl) (at_ (j := 0) rfl) rfl (wa_of (ea_cons (ev_var rfl) (ea_cons (ev_var rfl) ea_nil)) ⟨3, l, _, rfl, rfl, Or.inr (Or.inr (Or.inl ⟨rfl, rfl⟩)), ?_⟩))
      refine ws_sq (ws_app (ev_f BK rfl rfl rfl (by simp [FLD])) (wx_of (ev_var rfl) ⟨ents 3, at_ (j := 5) rfl, by decide, ?_⟩) ⟨_, at_ (j := 5) rfl⟩)
      rw [set_ (j := 5)]
      exact ws_drop (forget_bk BK (ns := [1]) (rw := rw3 1 2 (.int 20)) rfl rfl rfl rfl rfl rfl (by decide) (by decide) k)
    | 4, hk =>
      refine ws_sq (ws_drop (wx_of (ev_ask rfl rfl rfl (ea_cons (ev_var rfl) ea_nil) ⟨hk, rfl, rfl⟩) ?_))
      refine ws_sq (ws_star1 (wx_of (ev_var rfl) ⟨.str "edition", [.int 1, .int 2, .int 20], Or.inr rfl, ?_⟩))
      refine ws_sq (ws_ifE (p := false) (et_is (ev_inTup (ys := ["make", "folder"]) (ev_var rfl) (ea_cons ev_s (ea_cons ev_s ea_nil)) (by decide)) rfl) (fun h => by cases h) (fun _ => ?_))
      refine ws_ifE (p := false) (et_is (ev_inTup (ys := ["move", "copy"]) (ev_var rfl) (ea_cons ev_s (ea_cons ev_s ea_nil)) (by decide)) rfl) (fun h => by cases h) (fun _ => ?_)
      refine ws_ifE (p := false) (et_is (ev_inTup (ys := ["drop", "bring", "clear"]) (ev_var rfl) (ea_cons ev_s (ea_cons ev_s (ea_cons ev_s ea_nil))) (by decide)) rfl) (fun h => by cases h) (fun _ => ?_)
      refine ws_drop (wx_met hW rnil (ev_var rfl) (at_ (j := 0) rfl) rfl (wa_of (ea_cons (ev_var rfl) (ea_cons (ev_var rfl) ea_nil)) ⟨4, l, _, rfl, rfl, Or.inr (Or.inr (Or.inr ⟨rfl, rfl⟩)), ?_⟩))
      refine ws_sq (ws_app (ev_f BK rfl rfl rfl (by simp [FLD])) (wx_of (ev_var rfl) ⟨ents 4, at_ (j := 5) rfl, by decide, ?_⟩) ⟨_, at_ (j := 5) rfl⟩)
      rw [set_ (j := 5)]
      exact ws_drop (forget_bk BK (ns := [1]) (rw := rw3 2 2 (.int 20)) rfl rfl rfl rfl rfl rfl (by decide) (by decide) k)
theorem ok_note_one (F : Mt K "note_one" 1 [] f fd) (m_note : MtD P w K mg base 7 C "note" (fNote C)) : FnOk P w K mg base (L2.CX P w) 8 f fd ["self", "number", "entry"] (spD K (fNoteOne C)) := by
  refine fn_D F sc_note_one (fun xs st Φ Ψ h => ?_) (fun cdv A outer s H E hr => ⟨_, (pss_one (ps_try_thru0 (pss_one (ps_expr (pe_m m_note hr takes0 (pv 0) (pa_cons (pv 2) pa_nil)))))), fun b xs st Φ Ψ h hW => ?_⟩)
  · obtain ⟨_, _, rfl, _⟩ := h
    rfl
  · obtain ⟨kk, l, rfl, rfl, hk, k⟩ := h
    have h0 : ∃ fs, (bk C l.length kk)[0]? = some (.ins C fs) ∧ fs.lookup ("note" : Str) = none := by
      match kk, hk with
      | 0, _ => exact ⟨_, rfl, rfl⟩
      | 1, _ => exact ⟨_, rfl, rfl⟩
      | 2, _ => exact ⟨_, rfl, rfl⟩
      | 3, _ => exact ⟨_, rfl, rfl⟩
      | 4, _ => exact ⟨_, rfl, rfl⟩
    obtain ⟨fs, h1, h2⟩ := h0
    exact ws_drop (wx_met hW0 rnil (ev_var rfl) (at_ (j := 0) h1) h2 (wa_of (ea_cons (ev_var rfl) ea_nil) ⟨kk, l, rfl, rfl, hk, k⟩))
theorem ok_entries (BK : BkF K C) (B : BT mg) (F : Mt K "entries" 36 [] f fd) : FnOk P w K mg base (L2.CX P w) 1 f fd ["self"] (spD K (fEntries C)) := by
  refine fn_D F sc_entries (fun xs st Φ Ψ h => ?_) (fun cdv A outer s H E hr => ⟨_, (pss_one (ps_ret (x_list (K := K) B (x_fld (K := K) (pv 0))))), fun b xs st Φ Ψ h hW => ?_⟩)
  · obtain ⟨_, _, rfl, _⟩ := h
    rfl
  · obtain ⟨l, m, rfl, rfl, k⟩ := h
    exact ws_retE (ev_cb (ea_cons (ev_f BK rfl rfl rfl (by simp [FLD])) ea_nil) (o_listO (ds := LOG) (at_ (j := 5) rfl))) k
end
end K67

set_option Elab.async false
set_option linter.all false
set_option maxRecDepth 100000
set_option maxHeartbeats 4000000
namespace K67
open PySem PySem.Spec PyProof.Rows L2 AL
open TX (Fl okZ)
/-! ### a book: making it; two books that are alike -/
section
variable {P : Program} {w : World} {K : PySem.W.Frag} {mg : Str → Option Value} {base : Heap} {f d C NW : Addr} {fd : FuncData}
theorem fset_new (BK : BkF K C) {b : Cf} {sl : Sl} {l m : Sto} {o : AO} {g : Str} {fs : List (Str × AV)} {tv : TE} {tu : TS} {e : DE} (hg : g ∈ FLD) (h : sl[0]? = some (some (.o l.length))) (hm : (m ++ [o])[0]? = some (.ins C fs)) (hl : fs.length < 1000) (hv : ∀ Φ : AV → Sto → Prop, Φ (.o (l ++ m).length) ((l ++ m) ++ [o]) → Wx K b tv sl (l ++ m) Φ)
    (k : Ws K b tu sl (l ++ (m ++ [o]).set 0 (.ins C (putFA g (.o (l.length + m.length)) fs))) e) : Ws K b (tSeq (sFld K (tVar 0) tv g) tu) sl (l ++ m) e := by
  refine ws_sq (ws_fset BK.cl (BK.na _ hg) (hv _ ?_))
  have e1 : (l ++ m).length = l.length + m.length := List.length_append ..
  rw [e1, List.append_assoc]
  refine ⟨l.length, fs, ev_var h, at_ (j := 0) hm, hl, ?_⟩
  have e3 : ∀ o', (l ++ (m ++ [o])).set l.length o' = l ++ (m ++ [o]).set 0 o' := fun o' => set_ (j := 0)
  rw [e3]
  exact k
theorem fset_val (BK : BkF K C) {b : Cf} {sl : Sl} {l m : Sto} {x : AV} {g : Str} {fs : List (Str × AV)} {tv : TE} {tu : TS} {e : DE} (hg : g ∈ FLD) (h : sl[0]? = some (some (.o l.length))) (hm : m[0]? = some (.ins C fs)) (hl : fs.length < 1000) (hv : Ev K tv sl (l ++ m) x)
    (k : Ws K b tu sl (l ++ m.set 0 (.ins C (putFA g x fs))) e) : Ws K b (tSeq (sFld K (tVar 0) tv g) tu) sl (l ++ m) e := by
  refine ws_sq (ws_fset BK.cl (BK.na _ hg) (wx_of hv ⟨l.length, fs, ev_var h, at_ (j := 0) hm, hl, ?_⟩))
  have e3 : ∀ o', (l ++ m).set l.length o' = l ++ m.set 0 o' := fun o' => set_ (j := 0)
  rw [e3]
  exact k
theorem ok_init_book (BK : BkF K C) (B : BT mg) {dv : List V} (F : Mt K "__init__" 0 dv f fd) (m_note_one : MtD P w K mg base 8 C "note_one" (fNoteOne C)) : FnOk P w K mg base (L2.CX P w) 9 f fd ["self", "entries"] (spD K (fInit C)) := by
  refine fn_D F sc_init__ (fun xs st Φ Ψ h => ?_) (fun cdv A outer s H E hr => ⟨_, (pss_cons (x_fset (K := K) (f := "trees") (pv 0) (pe_dispT1 (Nat.lt_of_le_of_lt (Nat.le_add_right _ _) hr.units) (pe_tup pa_nil) pe_non))
      (pss_cons (x_fset (K := K) (f := "away_now") (pv 0) pe_dnewK)
      (pss_cons (x_fset (K := K) (f := "many_away") (pv 0) pe_int)
      (pss_cons (x_fset (K := K) (f := "rows") (pv 0) pe_dnewK)
      (pss_cons (x_fset (K := K) (f := "spent") (pv 0) pe_dnewK)
      (pss_cons (x_fset (K := K) (f := "next") (pv 0) pe_int)
      (pss_cons (x_fset (K := K) (f := "own_entries") (pv 0) (pe_lst pa_nil))
      (pss_cons (ps_if (pt_not (pt_val (x_isTT (K := K) B (pv 1) (pe_tup (pa_cons (ty_list B) (pa_cons (ty_tuple B) pa_nil)))))) (pss_one AL.ps_never) pss_nil)
      (pss_one (ps_for (passes_of rfl) rfl (x_enum B (pv 1)) (pg_tup rfl (pgs_cons (pg_name (i := 2) sc_init__.nd rfl (by first | exact Or.inl rfl | exact Or.inr rfl)) (pgs_cons (pg_name (i := 3) sc_init__.nd rfl (by first | exact Or.inl rfl | exact Or.inr rfl)) pgs_nil))) (pss_one (ps_expr (pe_m m_note_one hr takesD (pv 0) (pa_cons (pv 2) (pa_cons (pv 3) pa_nil))))))))))))))), fun b xs st Φ Ψ h hW => ?_⟩)
  · obtain ⟨_, rfl, _⟩ := h
    rfl
  · obtain ⟨l, rfl, rfl, k⟩ := h
    refine fset_new BK (o := .dt [([], dN)]) (by simp [FLD]) rfl rfl (Nat.le_of_ble_eq_true rfl) (fun Φ q => wx_dispT1 (k := []) (ev_tup (ds := []) ea_nil (by decide)) ev_n q) ?_
    refine fset_new BK (o := .dk []) (by simp [FLD]) rfl rfl (Nat.le_of_ble_eq_true rfl) (fun Φ q => wx_dnew q) ?_
    refine fset_val BK (x := dI 0) (by simp [FLD]) rfl rfl (Nat.le_of_ble_eq_true rfl) ev_i ?_
    refine fset_new BK (o := .dk []) (by simp [FLD]) rfl rfl (Nat.le_of_ble_eq_true rfl) (fun Φ q => wx_dnew q) ?_
    refine fset_new BK (o := .dk []) (by simp [FLD]) rfl rfl (Nat.le_of_ble_eq_true rfl) (fun Φ q => wx_dnew q) ?_
    refine fset_val BK (x := dI 1) (by simp [FLD]) rfl rfl (Nat.le_of_ble_eq_true rfl) ev_i ?_
    refine fset_new BK (o := .lst []) (by simp [FLD]) rfl rfl (Nat.le_of_ble_eq_true rfl) (fun Φ q => wx_lst ea_nil (by decide) q) ?_
    refine ws_guard (p := false) (et_is (et_not (et_B (ev_isTT (d := .list LOG) (us := ["list", "tuple"]) (r := true) (ev_var rfl) (ea_cons ev_raw (ea_cons ev_raw ea_nil)) (by decide) rfl))) rfl) (fun h => by cases h) fun _ => ?_
    refine ws_for (wi_of (ei_enum (ea_cons (ev_var rfl) ea_nil)) ⟨fun i sl st => ∃ x2 x3, sl = [some (.o l.length), some (dL LOG), x2, x3] ∧ st = l ++ bk C l.length i, ⟨none, none, rfl, rfl⟩, ?_, ?_⟩)
    · rintro i x sl st hx ⟨x2, x3, rfl, rfl⟩
      have hx2 : i < 5 ∧ x = dT [.int (i : Nat), .tuple (ent i)] := by
        rw [List.getElem?_map, enumD_get] at hx
        have hl : LOG.length = 5 := rfl
        cases hi : LOG[i]? with
        | none => rw [hi] at hx; cases hx
        | some y =>
          rw [hi] at hx
          obtain ⟨h1, h2⟩ := List.getElem?_eq_some_iff.mp hi
          refine ⟨by omega, ?_⟩
          have h3 : LOG[i]? = some (.tuple (ent i)) := by
            unfold LOG
            rw [List.getElem?_map, List.getElem?_range (by omega)]
            rfl
          rw [h3] at hi
          cases hi
          cases hx
          rw [Nat.zero_add]
      obtain ⟨hi, rfl⟩ := hx2
      refine ⟨_, _, eg_tup (ds := [_, _]) (egs_cons eg_name (egs_cons eg_name egs_nil)) rfl, ?_⟩
      have h0 : ∃ fs, (bk C l.length i)[0]? = some (.ins C fs) ∧ fs.lookup ("note_one" : Str) = none := by
        match i, hi with
        | 0, _ => exact ⟨_, rfl, rfl⟩
        | 1, _ => exact ⟨_, rfl, rfl⟩
        | 2, _ => exact ⟨_, rfl, rfl⟩
        | 3, _ => exact ⟨_, rfl, rfl⟩
        | 4, _ => exact ⟨_, rfl, rfl⟩
      obtain ⟨fs, h1, h2⟩ := h0
      exact ws_drop (wx_met hW rnil (ev_var rfl) (at_ (j := 0) h1) h2 (wa_of (ea_cons (ev_var rfl) (ea_cons (ev_var rfl) ea_nil)) ⟨i, l, rfl, rfl, hi, ⟨_, _, rfl, rfl⟩⟩))
    · rintro sl st ⟨x2, x3, rfl, rfl⟩
      exact k
/-! the own == -/
theorem x_isi {X : Cx} {K : PySem.W.Frag} {e e2 : Expr} {te te2 : TE} {p pos : Pos} (B : BT X.mg) (ha : PE X e te) (ha2 : PE X e2 te2) (hg : Gl X "isinstance" := by rfl)
    (hs1 : starEach [e, e2] X.env = (false, eval e X.env) :: starEach [e2] X.env := by rfl) (hs2 : starEach [e2] X.env = (false, eval e2 X.env) :: starEach [] X.env := by rfl) (hpl : (backTo pos (starEach [e2] X.env)).any (·.1) = false := by rfl) (hK : X.K = K := by rfl) :
    PE X (.Call (.Name "isinstance" p) [e, e2] [] pos) (tCB (rIsi K) (tCons te (tCons te2 tNil))) := by
  subst hK
  exact pe_callB call_isi hg B.isinstance PyProof.Rows.boot_isinstance (pa_cons ha (pa_cons ha2 pa_nil hs2) hs1) (by decide) (by decide) hs1 hpl
theorem sc_eq : FnScope ["self", "other", "mine"] ["self", "other"] (defScope (mt 39)) := C8.fnScope_by (by decide +kernel)
theorem ok_eq_book (B : BT mg) (F : Mt K "__eq__" 39 [] f fd) (g_Book : ∃ u, mg "Book" = some u ∧ RelV (.ref C) u) : FnOk P w K mg base (L2.CX P w) 1 f fd ["self", "other"] (spEq (RBk K C)) := by
  refine F.ok sc_eq (fun vs H Q E h => ?_) (fun cdv A outer s H vs Q E hr h => ⟨_, (pss_cons (ps_if (pt_not (pt_val (x_isi (K := K) B (pv 1) (C8.pe_gc rfl g_Book)))) (pss_one (ps_ret pe_bl)) pss_nil)
    (pss_cons (ps_set (i := 2) sc_eq.nd rfl (by first | exact Or.inl rfl | exact Or.inr rfl) (pe_lst (pa_cons (x_fld (K := K) (pv 0)) (pa_cons (x_fld (K := K) (pv 0)) (pa_cons (x_fld (K := K) (pv 0)) (pa_cons (x_fld (K := K) (pv 0)) (pa_cons (x_fld (K := K) (pv 0)) pa_nil)))))))
      (pss_one (ps_ret (pe_cmpR (op_eqX (room130 hr)) (pv 2) (pe_lst (pa_cons (x_fld (K := K) (pv 1)) (pa_cons (x_fld (K := K) (pv 1)) (pa_cons (x_fld (K := K) (pv 1)) (pa_cons (x_fld (K := K) (pv 1)) (pa_cons (x_fld (K := K) (pv 1)) pa_nil)))))) (nomark _)))))), run_eq h⟩)
  obtain ⟨_, _, rfl, _⟩ := h
  rfl
end
end K67

set_option Elab.async false
set_option linter.all false
set_option maxRecDepth 100000
set_option maxHeartbeats 4000000
namespace K67
open PySem PySem.Spec PyProof.Rows L2 AL
open TX (Fl okZ cut)
/-! ### a text that is a log: what is read of it, as a named list; what is shown -/
def fEntriesInO : DS := fun xs st Φ Ψ => ∃ ls, xs = [dL (rowsD ls)] ∧ okR ls ∧ badAt ls = none ∧ Φ (.o st.length) (st ++ [.lst ((entsD ls).map AV.d)])
def fReadCutO : DS := fun xs st Φ Ψ => ∃ l, xs = [dS (AL.S l)] ∧ okL l ∧ badAt (ini l) = none ∧ Φ (.p [.o st.length, .d (.str (AL.S (lst l)))]) (st ++ [.lst ((entsD (ini l)).map AV.d)])
def fReadO : DS := fun xs st Φ Ψ => ∃ l, xs = [dS (AL.S l)] ∧ okL l ∧ badAt (ini l) = none ∧ lst l = [] ∧ Φ (.o st.length) (st ++ [.lst ((entsD (ini l)).map AV.d)])
/-- the text of lines -/
def txt (ls : List (List Nat)) : List Nat := TL.joinL [] (ls.map fun l => l ++ [10])
theorem txt_join : ∀ ls : List (List Nat), txt ls = TL.joinL [10] (ls ++ [[]])
  | [] => rfl
  | [l] => by simp [txt, TL.joinL]
  | l :: m :: r => by
    have ih := txt_join (m :: r)
    unfold txt at ih ⊢
    simp only [List.map_cons, TL.joinL, List.cons_append, List.append_assoc, List.nil_append] at ih ⊢
    rw [ih]
theorem txt_cut {ls : List (List Nat)} (h : ∀ l ∈ ls, 10 ∉ l) : cut 10 (txt ls) = ls ++ [[]] := by
  rw [txt_join]
  refine TX.cut_join (by simp) fun p hp => ?_
  rcases List.mem_append.mp hp with h1 | h1
  · exact h p h1
  · rw [List.mem_singleton.mp h1]; simp
theorem txt_ini {ls : List (List Nat)} (h : ∀ l ∈ ls, 10 ∉ l) : ini (txt ls) = ls ∧ lst (txt ls) = [] := by
  have h1 := rows_eq (txt ls)
  rw [txt_cut h] at h1
  have h2 := List.append_inj' h1 rfl
  exact ⟨h2.1.symm, by have := h2.2; simpa using this.symm⟩
theorem txt_len (ls : List (List Nat)) : (txt ls).length = (ls.map List.length).sum + ls.length := by
  induction ls with
  | nil => rfl
  | cons l ls ih =>
    have : txt (l :: ls) = (l ++ [10]) ++ txt ls := by
      cases ls with
      | nil => simp [txt, TL.joinL]
      | cons m r => simp [txt, TL.joinL]
    rw [this, List.length_append, ih]
    simp
    omega
/-- entries whose lines are these -/
def Ls (es : List (List PyData)) (ls : List (List Nat)) : Prop := Paired (fun ds l => (ds.length ≤ 4 ∧ ∀ d ∈ ds, Wd d) ∧ shownE ds = AL.S l ∧ sm 243 l ∧ 10 ∉ l ∧ foundL l = ds ∧ goodL l = true) es ls
theorem ls_snoc {es : List (List PyData)} {ls : List (List Nat)} {ds : List PyData} (h : Ls es ls) (g : Gd ds) : ∃ l, Ls (es ++ [ds]) (ls ++ [l]) := by
  obtain ⟨g1, g2, l, g3⟩ := g
  exact ⟨l, paired_app h (.cons ⟨⟨g1, g2⟩, g3⟩ .nil)⟩
theorem ls_free {es : List (List PyData)} {ls : List (List Nat)} (h : Ls es ls) : (∀ l ∈ ls, 10 ∉ l ∧ sm 243 l ∧ goodL l = true) ∧ entsD ls = es.map PyData.tuple ∧ es.length = ls.length := by
  unfold Ls at h
  induction h with
  | nil => exact ⟨(fun l h => by cases h), rfl, rfl⟩
  | cons h _ ih =>
    obtain ⟨i1, i2, i3⟩ := ih
    obtain ⟨_, _, h3, h4, h5, h6⟩ := h
    refine ⟨fun l hl => ?_, ?_, by rw [List.length_cons, List.length_cons, i3]⟩
    · rcases List.mem_cons.mp hl with rfl | hl
      · exact ⟨h4, h3, h6⟩
      · exact i1 l hl
    · unfold entsD at i2 ⊢
      rw [List.map_cons, List.map_cons, h5, i2]
theorem ls_none {es : List (List PyData)} {ls : List (List Nat)} (h : Ls es ls) : badAt ls = none := bad_all fun j x hx => ((ls_free h).1 x (List.mem_of_getElem? hx)).2.2
theorem ls_ok {es : List (List PyData)} {ls : List (List Nat)} (h : Ls es ls) (hn : ls.length ≤ 20) : okL (txt ls) ∧ sm 5000 (txt ls) := by
  obtain ⟨h1, _, _⟩ := ls_free h
  have hs := sum_le (ps := ls) (n := 243) fun p hp => (h1 p hp).2.1.1
  have hc : sm 5000 (txt ls) := by
    refine ⟨by rw [txt_len]; omega, fun c hc => ?_⟩
    unfold txt at hc
    rcases joinL_mem hc with q | ⟨p, hp, q⟩
    · cases q
    · obtain ⟨l, hl, rfl⟩ := List.mem_map.mp hp
      rcases List.mem_append.mp q with q | q
      · exact (h1 l hl).2.1.2 c q
      · rw [List.mem_singleton.mp q]; decide
  exact ⟨⟨Nat.le_trans hc.1 (by decide), fun c h => Nat.lt_trans (hc.2 c h) (by decide)⟩, hc⟩
def fShownL : DS := fun xs st Φ _ => ∃ es ls, xs = [dL (es.map PyData.tuple)] ∧ Ls es ls ∧ ls.length ≤ 20 ∧ Φ (dS (AL.S (txt ls))) st
def fShownT : DS := fun xs st Φ _ => ∃ es ls, xs = [dT (es.map PyData.tuple)] ∧ Ls es ls ∧ ls.length ≤ 20 ∧ Φ (dS (AL.S (txt ls))) st
section
variable {P : Program} {w : World} {K : PySem.W.Frag} {mg : Str → Option Value} {base : Heap} {f d C : Addr} {fd : FuncData} {a : Ads}
theorem ok_entries_inO (B : BT mg) (F : Fn K "entries_in" 41 f fd) (c_entry_in : DefD P w K mg base 4 "entry_in" fEntryIn) (T_NoText : ExcD P w K mg base "NoText" C "row") : FnOk P w K mg base (L2.CX P w) 5 f fd ["rows"] (spD K fEntriesInO) := by
  refine fn_D F sc_entries_in (fun xs st Φ Ψ h => ?_) (fun cdv A outer s H E hr => ⟨_, (pss_cons (ps_set (i := 1) sc_entries_in.nd rfl (by first | exact Or.inl rfl | exact Or.inr rfl) (pe_lst pa_nil))
      (pss_cons (ps_for (passes_of rfl) rfl (x_enum B (pv 0)) (pg_tup rfl (pgs_cons (pg_name (i := 2) sc_entries_in.nd rfl (by first | exact Or.inl rfl | exact Or.inr rfl)) (pgs_cons (pg_name (i := 3) sc_entries_in.nd rfl (by first | exact Or.inl rfl | exact Or.inr rfl)) pgs_nil))) (pss_cons (ps_set (i := 4) sc_entries_in.nd rfl (by first | exact Or.inl rfl | exact Or.inr rfl) (pe_f c_entry_in hr takesD (pa_cons (pv 3) pa_nil)))
      (pss_cons (ps_if (t_isN (pv 4) pe_non) (pss_one (ps_raiseC T_NoText hr takesD (pv 2))) pss_nil)
      (pss_one (ps_expr (x_app (K := K) (pv 1) (pa_cons (pv 4) pa_nil)))))))
      (pss_one (ps_ret (pv 1))))), fun b xs st Φ Ψ h hW => ?_⟩)
  · obtain ⟨x, rfl, _⟩ := h
    rfl
  · obtain ⟨ls, rfl, ⟨hlen, hl⟩, hbn, k⟩ := h
    refine ws_sq (ws_asg (wx_lst (xs := []) ea_nil (by decide) ?_))
    refine ws_sq (ws_for (wi_of (ei_enum (ea_cons (ev_var rfl) ea_nil)) ?_))
    refine ⟨fun i sl1 st1 => (∃ x2 x3 x4, sl1 = [some (dL (rowsD ls)), some (.o st.length), x2, x3, x4]) ∧ st1 = st ++ [.lst ((entsD (ls.take i)).map AV.d)] ∧ ∀ j x, j < i → ls[j]? = some x → goodL x = true, ⟨⟨none, none, none, rfl⟩, rfl, fun j x hj => absurd hj (Nat.not_lt_zero _)⟩, ?_, ?_⟩
    · rintro i x sl1 st1 hx ⟨⟨x2, x3, x4, rfl⟩, rfl, hg⟩
      rw [List.getElem?_map, enumD_get] at hx
      unfold rowsD at hx
      rw [List.getElem?_map] at hx
      cases hi : ls[i]? with
      | none => rw [hi] at hx; cases hx
      | some l =>
        rw [hi] at hx
        cases hx
        have hok := hl l (List.mem_of_getElem? hi)
        refine ⟨_, _, eg_tup (ds := [_, _]) (egs_cons eg_name (egs_cons eg_name egs_nil)) rfl, ?_⟩
        refine ws_asgS (x := .d (entryL l)) (ev_cal rnil (ea_cons (ev_var rfl) ea_nil) ⟨l, rfl, hok, rfl, rfl⟩) ?_
        refine ws_guard (et_test (ev_op (ev_var rfl) ev_n o_isN)) (fun hn => ?_) (fun hn => ?_)
        · have hbad : goodL l = false := by
            cases hgl : goodL l with
            | false => rfl
            | true =>
              unfold entryL at hn
              rw [if_pos hgl] at hn
              cases hn
          have e := bad_at hi hbad hg
          rw [e] at hbn
          cases hbn
        · have hgood : goodL l = true := by
            cases hgl : goodL l with
            | true => rfl
            | false =>
              unfold entryL at hn
              rw [if_neg (by rw [hgl]; decide)] at hn
              cases hn
          have ee : entryL l = .tuple (foundL l) := by unfold entryL; rw [if_pos hgood]
          have n1 : (st ++ [AO.lst ((entsD (ls.take i)).map AV.d)])[st.length]? = some (.lst ((entsD (ls.take i)).map AV.d)) := by simp
          refine ws_app (n := st.length) (ev_var rfl) (wx_of (ev_var rfl) ⟨_, n1, ?_, ⟨⟨_, _, _, rfl⟩, ?_, ?_⟩⟩) ⟨_, n1⟩
          · unfold entsD
            rw [List.length_map, List.length_map, List.length_take]
            omega
          · have et : ls.take (i + 1) = ls.take i ++ [l] := take_get hi
            rw [et, ee]
            simp [entsD]
          · intro j x hj hx
            by_cases h : j < i
            · exact hg j x h hx
            · have : j = i := by omega
              subst this
              rw [hi] at hx
              cases hx
              exact hgood
    · rintro sl1 st1 ⟨⟨x2, x3, x4, rfl⟩, rfl, hg⟩
      have hlen2 : ((enumD 0 (rowsD ls)).map AV.d).length = ls.length := by rw [List.length_map, enumD_len]; unfold rowsD; rw [List.length_map]
      rw [hlen2, List.take_length]
      rw [hlen2] at hg
      exact ws_retE (ev_var rfl) k
theorem ok_read_cutO (B : BT mg) (F : Fn K "read_cut" 42 f fd) (c_entries_in : DefD P w K mg base 5 "entries_in" fEntriesInO) (T_NoText : ExcD P w K mg base "NoText" C "row") : FnOk P w K mg base (L2.CX P w) 6 f fd ["text"] (spD K fReadCutO) := by
  refine fn_D F sc_read_cut (fun xs st Φ Ψ h => ?_) (fun cdv A outer s H E hr => ⟨_, (pss_cons (ps_if (pt_not (pt_val (x_is (K := K) B (pv 0) (ty_str B)))) (pss_one (ps_raiseC T_NoText hr takesD pe_int)) pss_nil)
      (pss_cons (ps_set (i := 1) sc_read_cut.nd rfl (by first | exact Or.inl rfl | exact Or.inr rfl) (x_split (K := K) (pv 0) (pa_cons pe_str pa_nil)))
      (pss_one (ps_ret (pe_tup (pa_cons (pe_f c_entries_in hr takesD (pa_cons (x_sl (K := K) (pv 1) po_none (po_some (x_neg pe_int))) pa_nil)) (pa_cons (x_ix (K := K) (pv 1) (x_neg pe_int)) pa_nil))))))), fun b xs st Φ Ψ h hW => ?_⟩)
  · obtain ⟨x, rfl, _⟩ := h
    rfl
  · obtain ⟨l, rfl, hok, hbn, k⟩ := h
    obtain ⟨h1, h2⟩ := ini_ok hok
    refine ws_guard (et_not (et_B (ev_isS (x := .str (AL.S l)) (ev_var rfl)))) (fun hp => by cases hp) (fun _ => ?_)
    have es : Ev K (tBM K "str" rSPLIT (tVar 0) (tCons (tC (.str "\n")) tNil)) (startS ["text", "rows"] [dS (AL.S l)]) st (dL (rowsD (ini l) ++ [.str (AL.S (lst l))])) := by
      have := ev_bm (ev_var (sl := startS ["text", "rows"] [dS (AL.S l)]) (i := 0) rfl) (ea_cons (ev_s (z := AL.S [10])) ea_nil) (o_split (K := K) (st := st) (a := AL.S l) (b := AL.S [10]) rfl (by rw [TX.S_len]; have := hok.1; omega))
      rw [TX.split_cut (by decide), List.map_map, rows_eq, List.map_append] at this
      exact this
    refine ws_asgS es ?_
    have v1 : ∀ st', Ev K (tVar 1) ((startS ["text", "rows"] [dS (AL.S l)]).set 1 (some (dL (rowsD (ini l) ++ [.str (AL.S (lst l))])))) st' (dL (rowsD (ini l) ++ [.str (AL.S (lst l))])) := fun st' => ev_var rfl
    have e1 := ev_sl (r := rSL K) (v1 st) eo_none (eo_some (ev_neg (ev_i (i := 1)))) o_slL
    rw [cutD_init] at e1
    refine ws_ret (wx_tupP (wa_cons (wx_cal hW rnil (wa_of (ea_cons e1 ea_nil) ⟨ini l, rfl, h1, hbn, ?_⟩))))
    exact wa_cons (wx_of (ev_op (v1 _) (ev_neg (ev_i (i := 1))) (o_ixL (atI_last _ _))) (wa_nil ⟨[.o st.length, .d (.str (AL.S (lst l)))], rfl, Nat.le_of_ble_eq_true rfl, k⟩))
theorem ok_readO (B : BT mg) (F : Fn K "read" 43 f fd) (c_read_cut : DefD P w K mg base 6 "read_cut" fReadCutO) (T_NoText : ExcD P w K mg base "NoText" C "row") : FnOk P w K mg base (L2.CX P w) 7 f fd ["text"] (spD K fReadO) := by
  refine fn_D F sc_read (fun xs st Φ Ψ h => ?_) (fun cdv A outer s H E hr => ⟨_, (pss_cons (ps_asg (pe_f c_read_cut hr takesD (pa_cons (pv 0) pa_nil)) (pg_tup rfl (pgs_cons (pg_name (i := 1) sc_read.nd rfl (by first | exact Or.inl rfl | exact Or.inr rfl)) (pgs_cons (pg_name (i := 2) sc_read.nd rfl (by first | exact Or.inl rfl | exact Or.inr rfl)) pgs_nil))))
      (pss_cons (ps_if (t_ne (K := K) hr.units (pv 2) pe_str) (pss_one (ps_raiseC T_NoText hr takesD (x_len (K := K) B (pv 1)))) pss_nil)
      (pss_one (ps_ret (pv 1))))), fun b xs st Φ Ψ h hW => ?_⟩)
  · obtain ⟨x, rfl, _⟩ := h
    rfl
  · obtain ⟨l, rfl, hok, hbn, hl, k⟩ := h
    refine ws_sq (ws_asgG (wx_cal hW rnil (wa_of (ea_cons (ev_var rfl) ea_nil) ⟨l, rfl, hok, hbn, ?_⟩)))
    refine ⟨_, _, eg_tupP (xs := [_, _]) (egs_cons eg_name (egs_cons eg_name egs_nil)) rfl, ?_⟩
    rw [hl]
    refine ws_guard (p := false) (et_is (et_test (ev_op (ev_var rfl) ev_s (o_neS (x := AL.S []) (y := AL.S [])))) (by decide)) (fun h => by cases h) (fun _ => ?_)
    exact ws_retE (ev_var rfl) k
theorem sc_shown : FnScope ["entries", "entry"] ["entries"] (defScope (top 38)) := C8.fnScope_by (by decide +kernel)
theorem ls_rows {es : List (List PyData)} {ls : List (List Nat)} (h : Ls es ls) : (es.map fun ds => shownE ds ++ AL.S [10]) = (ls.map fun l => l ++ [10]).map AL.S := by
  unfold Ls at h
  induction h with
  | nil => rfl
  | cons h _ ih => rw [List.map_cons, List.map_cons, List.map_cons, ih, h.2.1, SX.S_cat]
theorem shown_step {b : Cf} {W : WX} {es : List (List PyData)} {ls : List (List Nat)} {sl : Sl} {st : Sto} {wi : TI} {j : Nat} (hi : Ei K wi sl st ((es.map PyData.tuple).map AV.d)) (h : Ls es ls) (hn : ls.length ≤ 20) (h1 : j < sl.length) :
    Ev K (tBM K "str" (rJOIN K) (tC (.str "")) (tCons (tLc wi (gName j) tYes (tOp (rADD K) (tCalW (spD K fShown) [] W (tCons (tVar j) tNil)) (tC (.str "\n"))) [j]) tNil)) sl st (dS (AL.S (txt ls))) := by
  obtain ⟨g1, g2, g3⟩ := ls_free h
  have hlc : Ev K (tLc wi (gName j) tYes (tOp (rADD K) (tCalW (spD K fShown) [] W (tCons (tVar j) tNil)) (tC (.str "\n"))) [j]) sl st (dL (es.map fun ds => PyData.str (shownE ds ++ AL.S [10]))) := by
    rw [List.map_map] at hi
    refine ev_lcN (mk := fun ds => dT ds) (f := fun ds => .str (shownE ds ++ AL.S [10])) hi (by omega) (List.mem_singleton.mpr rfl) fun ds hds => ?_
    obtain ⟨l, hl, ⟨k1, k2⟩, k3, k4, _⟩ := mem_left h ds hds
    have hv : ((wipeS sl [j]).set j (some (dT ds)))[j]? = some (some (dT ds)) := List.getElem?_set_self (by show j < (sl.set j none).length; rw [List.length_set]; exact h1)
    refine ev_op (ev_cal rnil (ea_cons (ev_var hv) ea_nil) ⟨ds, rfl, k2, by omega, rfl, rfl⟩) (ev_s (z := AL.S [10])) (o_addS ?_)
    rw [k3, TX.S_len, TX.S_len]
    have := k4.1
    simp only [List.length_cons, List.length_nil]
    omega
  have hr := ls_rows h
  have e1 : (es.map fun ds => PyData.str (shownE ds ++ AL.S [10])) = ((ls.map fun l => l ++ [10]).map AL.S).map PyData.str := by
    rw [← hr, List.map_map]
    rfl
  rw [e1] at hlc
  have hz : (((ls.map fun l => l ++ [10]).map AL.S).map (·.length)).sum + ((ls.map fun l => l ++ [10]).map AL.S).length * (AL.S []).length ≤ 10000000 := by
    rw [TX.S_len, TX.lens]
    have := sum_le (ps := ls.map fun l => l ++ [10]) (n := 244) fun p hp => by
      obtain ⟨l, hl, rfl⟩ := List.mem_map.mp hp
      have := (g1 l hl).2.1.1
      simp
      omega
    rw [List.length_map] at this
    simp only [List.length_nil]
    omega
  have := ev_bm (K := K) (ev_s (sl := sl) (st := st) (z := AL.S [])) (ea_cons hlc ea_nil) (o_joinL (a := AL.S []) hz)
  rw [TX.join_S] at this
  exact this
theorem ok_shown (B : BT mg) (F : Fn K "shown" 38 f fd) (c_shown_entry : DefD P w K mg base 2 "shown_entry" fShown) : FnOk P w K mg base (L2.CX P w) 3 f fd ["entries"] (spD K fShownL) := by
  refine fn_D F sc_shown (fun xs st Φ Ψ h => ?_) (fun cdv A outer s H E hr => ⟨_, (pss_one (ps_ret (x_join (K := K) pe_str (pa_cons (pe_lc (own := [("entry", 1)]) (g := gName 1) (tt := tYes) rfl sc_shown.nd (pi_list (pv 0)) (blkOk_by (N := ["entries", "entry"]) (sc := defScope (top 38)) (by decide +kernel)) (fun _ _ _ _ _ => pg_name (i := 1) sc_shown.nd rfl (by first | exact Or.inl rfl | exact Or.inr rfl)) (fun _ _ _ _ _ => pts_nil) (fun _ _ _ _ _ => (x_add (K := K) (pe_f c_shown_entry hr takes0 (pa_cons (pv 1) pa_nil)) pe_str))) pa_nil)))), fun b xs st Φ Ψ h hW => ?_⟩)
  · obtain ⟨_, _, rfl, _⟩ := h
    rfl
  · obtain ⟨es, ls, rfl, h, hn, k⟩ := h
    exact ws_retE (shown_step (b := b) (ei_list (ev_var rfl)) h hn (Nat.le_of_ble_eq_true rfl)) k
theorem ok_shownT (B : BT mg) (F : Fn K "shown" 38 f fd) (c_shown_entry : DefD P w K mg base 2 "shown_entry" fShown) : FnOk P w K mg base (L2.CX P w) 3 f fd ["entries"] (spD K fShownT) := by
  refine fn_D F sc_shown (fun xs st Φ Ψ h => ?_) (fun cdv A outer s H E hr => ⟨_, (pss_one (ps_ret (x_join (K := K) pe_str (pa_cons (pe_lc (own := [("entry", 1)]) (g := gName 1) (tt := tYes) rfl sc_shown.nd (pi_tup (pv 0)) (blkOk_by (N := ["entries", "entry"]) (sc := defScope (top 38)) (by decide +kernel)) (fun _ _ _ _ _ => pg_name (i := 1) sc_shown.nd rfl (by first | exact Or.inl rfl | exact Or.inr rfl)) (fun _ _ _ _ _ => pts_nil) (fun _ _ _ _ _ => (x_add (K := K) (pe_f c_shown_entry hr takes0 (pa_cons (pv 1) pa_nil)) pe_str))) pa_nil)))), fun b xs st Φ Ψ h hW => ?_⟩)
  · obtain ⟨_, _, rfl, _⟩ := h
    rfl
  · obtain ⟨es, ls, rfl, h, hn, k⟩ := h
    exact ws_retE (shown_step (b := b) (ei_tup (ev_var rfl)) h hn (Nat.le_of_ble_eq_true rfl)) k
end
end K67

set_option Elab.async false
set_option linter.all false
set_option maxRecDepth 100000
set_option maxHeartbeats 4000000
namespace K67
open PySem PySem.Spec PyProof.Rows L2 AL
open TX (Fl okZ cut)
/-! ### what is shown is short -/
theorem leavesAll (B : Nat) : ∀ xs : List PyData, PyData.leavesShortAll B xs = xs.all (PyData.leavesShort B)
  | [] => by simp only [PyData.leavesShortAll, List.all_nil]
  | x :: xs => by simp only [PyData.leavesShortAll, List.all_cons, leavesAll B xs]
theorem showsAll : ∀ xs : List PyData, PyData.showableAll xs = xs.all PyData.showable
  | [] => by simp only [PyData.showableAll, List.all_nil]
  | x :: xs => by simp only [PyData.showableAll, List.all_cons, showsAll xs]
theorem weightsAll : ∀ xs : List PyData, PyData.weightAll xs = (xs.map PyData.weight).sum + xs.length
  | [] => by simp only [PyData.weightAll, List.map_nil, List.sum_nil, List.length_nil]
  | x :: xs => by simp only [PyData.weightAll, List.map_cons, List.sum_cons, List.length_cons, weightsAll xs]; omega
def Sh (d : PyData) : Prop := d.leavesShort 31 = true ∧ d.showable = true
theorem sh_list {xs : List PyData} (h : ∀ d ∈ xs, Sh d) : Sh (.list xs) := ⟨by
  simp only [PyData.leavesShort, leavesAll]
  exact List.all_eq_true.mpr fun d hd => (h d hd).1, by
  simp only [PyData.showable, showsAll]
  exact List.all_eq_true.mpr fun d hd => (h d hd).2⟩
theorem sh_tup {xs : List PyData} (h : ∀ d ∈ xs, Sh d) : Sh (.tuple xs) := ⟨by
  simp only [PyData.leavesShort, leavesAll]
  exact List.all_eq_true.mpr fun d hd => (h d hd).1, by
  simp only [PyData.showable, showsAll]
  exact List.all_eq_true.mpr fun d hd => (h d hd).2⟩
theorem sh_none : Sh .none := ⟨by simp only [PyData.leavesShort], by simp only [PyData.showable]⟩
theorem sh_str {l : List Nat} (h : ∀ c ∈ l, c < 1114112) : Sh (.str (AL.S l)) := ⟨by
  simp only [PyData.leavesShort]
  exact List.all_eq_true.mpr fun c hc => decide_eq_true (Nat.lt_trans (h c hc) (by decide)), by simp only [PyData.showable]⟩
theorem sh_int {i : Int} (h : i.natAbs < 10 ^ 30) : Sh (.int i) := ⟨by
  simp only [PyData.leavesShort, PyData.shown]
  refine decide_eq_true ?_
  show (Str.ofString (toString i)).length ≤ 31
  rw [PySem.ofString_length]
  exact PySem.int_text_length_le10 (by decide) h, by
  simp only [PyData.showable]
  exact decide_eq_true (log_of h)⟩
theorem val_lt2 {cs : List Nat} (h : NumText.AllDigits cs) : NumText.digitsVal cs < 10 ^ cs.length := by
  have := digits_lt cs 0 fun c hc => (h c hc).2
  rw [Nat.zero_add, Nat.one_mul] at this
  exact this
theorem num_lt2 {l : List Nat} (h : figsOk l = true) : (numOf l).natAbs < 10 ^ l.length := by
  unfold figsOk at h
  simp only [Bool.not_eq_true', Bool.or_eq_false_iff, decide_eq_false_iff_not, Bool.not_eq_false'] at h
  obtain ⟨h1, h2, h3⟩ := h
  unfold figsOf at h1 h2 h3
  unfold numOf
  by_cases hh : l.head? = some 45
  · rw [if_pos hh] at h1 h2 h3 ⊢
    have := val_lt2 (figs_all h3)
    have h4 : (10:Nat) ^ (l.drop 1).length ≤ 10 ^ l.length := Nat.pow_le_pow_right (by decide) (by rw [List.length_drop]; omega)
    omega
  · rw [if_neg hh] at h1 h2 h3 ⊢
    have := val_lt2 (figs_all h3)
    omega
theorem weight_int {i : Int} {n : Nat} (h : i.natAbs < 10 ^ n) : (PyData.int i).weight ≤ 4 * n := by
  simp only [PyData.weight]
  split
  · omega
  · rename_i h0
    have h0 : i.natAbs ≠ 0 := fun z => h0 (by have : i = 0 := by omega
                                              rw [this]; rfl)
    have h1 : i.natAbs < 2 ^ (4 * n) := by
      rw [Nat.pow_mul]
      exact Nat.lt_of_lt_of_le h (Nat.pow_le_pow_left (by decide) n)
    have := (Nat.log2_lt h0).mpr h1
    omega
theorem weight_str (l : List Nat) : (PyData.str (AL.S l)).weight = l.length := by
  simp only [PyData.weight]
  exact TX.S_len l
theorem thing_cases (l : List Nat) : (l = [45] ∧ thingL l = .none) ∨ (∃ r, l = 47 :: r) ∨ (l ≠ [45] ∧ l.head? ≠ some 47 ∧ thingL l = if figsOk l = true then .int (numOf l) else .str (AL.S l)) := by
  by_cases h1 : l = [45]
  · exact Or.inl ⟨h1, by unfold thingL; rw [if_pos h1]⟩
  by_cases h2 : l.head? = some 47
  · cases l with
    | nil => cases h2
    | cons c r => exact Or.inr (Or.inl ⟨r, by simpa using h2⟩)
  · exact Or.inr (Or.inr ⟨h1, h2, by unfold thingL; rw [if_neg h1, if_neg h2]⟩)
theorem thing_sh {l : List Nat} (h : okL l) : Sh (thingL l) ∧ (thingL l).weight ≤ 4 * l.length + 1 := by
  rcases thing_cases l with ⟨rfl, e⟩ | ⟨r, rfl⟩ | ⟨h1, h2, e⟩
  · rw [e]
    exact ⟨sh_none, by simp only [PyData.weight]; omega⟩
  · by_cases hr : r = []
    · subst hr
      have e : thingL [47] = .tuple [] := by
        unfold thingL
        rw [if_neg (by simp), if_pos (by rfl), if_pos rfl]
      rw [e]
      exact ⟨sh_tup (fun d hd => by cases hd), by decide⟩
    · rw [thing_path hr]
      have hr2 : okL r := ok_drop 1 h
      refine ⟨sh_tup fun d hd => ?_, ?_⟩
      · unfold wsD at hd
        obtain ⟨p, hp, rfl⟩ := List.mem_map.mp hd
        exact sh_str (ok_cut hr2 hp).2
      · simp only [PyData.weight, weightsAll]
        have e2 : (wsD (cut 47 r)).map PyData.weight = (cut 47 r).map List.length := by
          unfold wsD
          rw [List.map_map]
          exact List.map_congr_left fun p _ => weight_str p
        rw [e2]
        unfold wsD
        rw [List.length_map, TX.cut_sum, List.length_cons]
        omega
  · rw [e]
    by_cases hf : figsOk l = true
    · rw [if_pos hf]
      exact ⟨sh_int (num_lt hf), Nat.le_trans (weight_int (num_lt2 hf)) (by omega)⟩
    · rw [if_neg hf]
      exact ⟨sh_str h.2, by rw [weight_str]; omega⟩
theorem things_weight : ∀ {ws : List (List Nat)}, (∀ w ∈ ws, okL w) → ((ws.map thingL).map PyData.weight).sum ≤ 4 * (ws.map List.length).sum + ws.length
  | [], _ => by simp
  | w :: ws, h => by
    have h1 := (thing_sh (h w (List.mem_cons_self ..))).2
    have h2 := things_weight (ws := ws) fun x hx => h x (List.mem_cons_of_mem _ hx)
    simp only [List.map_cons, List.sum_cons, List.length_cons] at h2 ⊢
    omega
theorem found_sh {l : List Nat} (h : okL l) : Sh (.tuple (foundL l)) ∧ (PyData.tuple (foundL l)).weight ≤ 4 * (l.length + 1) := by
  have hs := TX.cut_sum 32 l
  have hm : ∀ p ∈ cut 32 l, okL p := fun p hp => ok_cut h hp
  unfold foundL
  cases hc : cut 32 l with
  | nil => exact absurd hc (TX.cut_ne _ _)
  | cons w0 ws =>
    rw [hc] at hs hm
    refine ⟨sh_tup fun d hd => ?_, ?_⟩
    · rcases List.mem_cons.mp hd with rfl | hd
      · exact sh_str (hm w0 (List.mem_cons_self ..)).2
      · obtain ⟨p, hp, rfl⟩ := List.mem_map.mp hd
        exact (thing_sh (hm p (List.mem_cons_of_mem _ hp))).1
    · have h2 := things_weight (ws := ws) fun x hx => hm x (List.mem_cons_of_mem _ hx)
      simp only [PyData.weight, weightsAll, List.map_cons, List.sum_cons, List.length_cons, List.length_map] at hs ⊢
      have : (AL.S w0).cps.size = w0.length := TX.S_len w0
      rw [this]
      omega
theorem ents_sh : ∀ {ls : List (List Nat)}, (∀ l ∈ ls, okL l) → (∀ d ∈ entsD ls, Sh d) ∧ ((entsD ls).map PyData.weight).sum ≤ 4 * ((ls.map List.length).sum + ls.length)
  | [], _ => ⟨(fun d hd => by cases hd), by simp [entsD]⟩
  | l :: ls, h => by
    obtain ⟨h1, h2⟩ := found_sh (h l (List.mem_cons_self ..))
    obtain ⟨h3, h4⟩ := ents_sh (ls := ls) fun x hx => h x (List.mem_cons_of_mem _ hx)
    unfold entsD at h3 h4 ⊢
    refine ⟨fun d hd => ?_, ?_⟩
    · rcases List.mem_cons.mp hd with rfl | hd
      · exact h1
      · exact h3 d hd
    · simp only [List.map_cons, List.sum_cons, List.length_cons] at h4 ⊢
      omega
theorem entsD_fl {ls : List (List Nat)} (h : ∀ l ∈ ls, okL l) : Fl 3 (.list (entsD ls)) := fun d hd => by
  obtain ⟨l, hl, rfl⟩ := List.mem_map.mp hd
  exact found_fl (h l hl)
def Showy (d : PyData) : Prop := d.showable = true ∧ d.depth ≤ 60 ∧ d.shown.length ≤ sizeLine
theorem showy_of {d : PyData} {n : Nat} (h : Sh d) (f : Fl n d) (hn : n ≤ 60) (w : d.weight ≤ 100000) : Showy d := by
  refine ⟨h.2, Nat.le_trans (TX.lay_fl n d f).2 hn, ?_⟩
  have := PyData.shown_le 31 (by decide) d h.1
  rw [sizeLine_eq]
  omega
theorem sm_ok {n : Nat} {l : List Nat} (h : sm n l) (hn : n ≤ 20000) : okL l := ⟨Nat.le_trans h.1 hn, fun c hc => Nat.lt_trans (h.2 c hc) (by decide)⟩
end K67

set_option Elab.async false
set_option linter.all false
set_option maxRecDepth 100000
set_option maxHeartbeats 4000000
namespace K67
open PySem PySem.Spec PyProof.Rows L2 AL
open TX (Fl okZ cut)
/-! ### two books of the same log are alike -/
def five (C : Addr) (n : Nat) : List AV := [.o (n + 1), .o (n + 2), dI 0, .o (n + 11), dI 2]
theorem aeq_d {T : Sto} {n : Nat} {x y : PyData} (hx : SeqAt.shaped x = true) (hy : SeqAt.shaped y = true) (h : PyData.eqv x y = true) : AEq T (n + 1) (.d x) (.d y) := Or.inl ⟨x, y, rfl, rfl, hx, hy, h⟩
theorem aeq_books {C : Addr} {T : Sto} {n1 n2 : Nat} (h1 : ∀ j o, (bk C n1 5)[j]? = some o → T[n1 + j]? = some o) (h2 : ∀ j o, (bk C n2 5)[j]? = some o → T[n2 + j]? = some o) : Paired (AEq T 20) (five C n1) (five C n2) := by
  have dN0 : AEq T 19 dN dN := aeq_d rfl rfl rfl
  have hl : AEq T 19 (.o (n1 + 6)) (.o (n2 + 6)) := Or.inr ⟨_, _, rfl, rfl, Or.inl ⟨[dI 1], [dI 1], h1 6 _ rfl, h2 6 _ rfl, .cons (aeq_d rfl rfl rfl) .nil⟩⟩
  refine .cons (Or.inr ⟨_, _, rfl, rfl, Or.inr (Or.inr ⟨tr1 n1, tr1 n2, h1 1 _ rfl, h2 1 _ rfl, rfl, fun p hp => ?_⟩)⟩) (.cons (Or.inr ⟨_, _, rfl, rfl, Or.inr (Or.inl ⟨[], [], h1 2 _ rfl, h2 2 _ rfl, rfl, fun p hp => by cases hp⟩)⟩) (.cons (aeq_d rfl rfl rfl) (.cons (Or.inr ⟨_, _, rfl, rfl, Or.inr (Or.inl ⟨_, _, h1 11 _ rfl, h2 11 _ rfl, rfl, fun p hp => ?_⟩)⟩) (.cons (aeq_d rfl rfl rfl) .nil))))
  · simp only [tr1, List.mem_cons, List.not_mem_nil, or_false] at hp
    rcases hp with rfl | rfl
    · exact ⟨dN, rfl, dN0⟩
    · exact ⟨.o (n2 + 6), rfl, hl⟩
  · rw [List.mem_singleton.mp hp]
    exact ⟨dT [.int 2, .int 2, .int 20], rfl, aeq_d rfl rfl rfl⟩
/-! ### the law -/
def LOGE : List (List PyData) := (List.range 5).map ent
def LOGL : List (List Nat) := [[109, 97, 107, 101, 32, 47, 97], [110, 117, 109, 98, 101, 114, 32, 49], [112, 105, 101, 99, 101, 32, 47, 97, 32, 49], [114, 97, 105, 115, 101, 32, 49, 32, 50, 32, 50, 48], [101, 100, 105, 116, 105, 111, 110, 32, 49, 32, 50, 32, 50, 48]]
theorem wd_i {i : Int} (h : i.natAbs.log2 < 1920) : Wd (.int i) := h
theorem ls_log : Ls LOGE LOGL := by
  have wP : Wd PA := ⟨fun d hd => ⟨_, List.mem_singleton.mp hd⟩, by decide⟩
  have w1 : Wd (.int 1) := wd_i (by decide)
  have w2 : Wd (.int 2) := wd_i (by decide)
  have w20 : Wd (.int 20) := wd_i (by decide)
  have ws : ∀ z : Str, z.length ≤ 100000 → Wd (.str z) := fun z h => h
  refine .cons ⟨⟨by decide, ?_⟩, by decide +kernel, ⟨by decide, by decide⟩, by decide, rfl, by decide +kernel⟩ (.cons ⟨⟨by decide, ?_⟩, by decide +kernel, ⟨by decide, by decide⟩, by decide, rfl, by decide +kernel⟩ (.cons ⟨⟨by decide, ?_⟩, by decide +kernel, ⟨by decide, by decide⟩, by decide, rfl, by decide +kernel⟩ (.cons ⟨⟨by decide, ?_⟩, by decide +kernel, ⟨by decide, by decide⟩, by decide, rfl, by decide +kernel⟩ (.cons ⟨⟨by decide, ?_⟩, by decide +kernel, ⟨by decide, by decide⟩, by decide, rfl, by decide +kernel⟩ .nil))))
  all_goals
    intro d hd
    simp only [ent, List.mem_cons, List.not_mem_nil, or_false] at hd
    rcases hd with rfl | rfl | rfl | rfl <;> first | exact wP | exact w1 | exact w2 | exact w20 | exact ws _ (by decide)
theorem ls_root : Ls [[.str "make", .tuple []]] [[109, 97, 107, 101, 32, 47]] := by
  refine .cons ⟨⟨by decide, ?_⟩, by decide +kernel, ⟨by decide, by decide⟩, by decide, rfl, by decide +kernel⟩ .nil
  intro d hd
  simp only [List.mem_cons, List.not_mem_nil, or_false] at hd
  rcases hd with rfl | rfl
  · show (Str.ofString "make").length ≤ 100000
    decide
  · exact ⟨(fun d hd => by cases hd), by decide⟩
def spLaw (K : PySem.W.Frag) (n : Nat) : Sp := fun vs H Q _ => ∃ (a : Addr) (ns : List Int), vs = [.ref a] ∧ ns.length ≤ n ∧ Only H ∧ SqL K H a (ns.map V.int) ∧ ∀ H', Q (.bl true) H'
theorem set_self {st : Sto} {n : Nat} {o : AO} (h : st[n]? = some o) : st.set n o = st := by
  apply List.ext_getElem?
  intro i
  by_cases hi : n = i
  · subst hi
    rw [List.getElem?_set_self (List.getElem?_eq_some_iff.mp h).1, h]
  · rw [List.getElem?_set_ne hi]
theorem rd_txt {C : Addr} {es : List (List PyData)} {ls : List (List Nat)} {Φ : PyData → Prop} {Ψ : AE → Prop} (h : Ls es ls) (k : Φ (.list (entsD ls))) : rd C (.str (AL.S (txt ls))) Φ Ψ := by
  obtain ⟨h1, h2⟩ := txt_ini (ls := ls) fun l hl => ((ls_free h).1 l hl).1
  unfold rd
  simp only
  rw [h1, h2, ls_none h]
  exact k
theorem rdCut_txt {C : Addr} {es : List (List PyData)} {ls : List (List Nat)} {Φ : PyData → Prop} {Ψ : AE → Prop} (h : Ls es ls) (k : Φ (.tuple [.list (entsD ls), .str (AL.S [])])) : rdCut C (.str (AL.S (txt ls))) Φ Ψ := by
  obtain ⟨h1, h2⟩ := txt_ini (ls := ls) fun l hl => ((ls_free h).1 l hl).1
  unfold rdCut
  simp only
  rw [h1, h2, ls_none h]
  exact k
theorem log_showy {es : List (List PyData)} {ls : List (List Nat)} (h : Ls es ls) (hn : ls.length ≤ 20) : Showy (.list (entsD ls)) ∧ Showy (.tuple [.list (entsD ls), .str (AL.S [])]) := by
  obtain ⟨h1, _, _⟩ := ls_free h
  have hok : ∀ l ∈ ls, okL l := fun l hl => sm_ok (h1 l hl).2.1 (by decide)
  obtain ⟨s1, s2⟩ := ents_sh hok
  have hs := sum_le (ps := ls) (n := 243) fun p hp => (h1 p hp).2.1.1
  have el : (entsD ls).length = ls.length := by unfold entsD; rw [List.length_map]
  refine ⟨showy_of (n := 3) (sh_list s1) (entsD_fl hok) (by decide) ?_, showy_of (n := 4) (sh_tup fun d hd => ?_) (fun d hd => ?_) (by decide) ?_⟩
  · simp only [PyData.weight, weightsAll]
    omega
  · simp only [List.mem_cons, List.not_mem_nil, or_false] at hd
    rcases hd with rfl | rfl
    · exact sh_list s1
    · exact sh_str (fun c h => by cases h)
  · simp only [List.mem_cons, List.not_mem_nil, or_false] at hd
    rcases hd with rfl | rfl
    · exact entsD_fl hok
    · exact okZ_of (l := []) ⟨by decide, fun c h => by cases h⟩
  · simp only [PyData.weight, weightsAll, List.map_cons, List.map_nil, List.sum_cons, List.sum_nil, List.length_cons, List.length_nil]
    have : (AL.S []).cps.size = 0 := rfl
    rw [this]
    omega
section
variable {P : Program} {w : World} {K : PySem.W.Frag} {mg : Str → Option Value} {base : Heap} {f d C CN fe : Addr} {fd fde : FuncData} {a : Ads}
theorem sc_law : FnScope ["_law_script", "_law_k", "_law_room_here", "_law_log", "_law_turn", "_law_kept", "_law_line", "_law_entry_here", "_law_told", "_law_some"] ["_law_script"] (defScope (top 51)) := C8.fnScope_by (by decide +kernel)
theorem wx_room {b : Cf} {sl : Sl} {st : Sto} {a : Addr} {ns : List Int} {k : Int} {W : WX} {Φ : AV → Sto → Prop} (hs : Scr K b a ns) (h0 : sl[0]? = some (some (.raw (.ref a)))) (hk : sl[1]? = some (some (dI k))) (k0 : 0 ≤ k ∧ k < 1000) (q0 : ∀ x y, Φ (.o st.length) (st ++ [RmO x y])) :
    Wx K b (tCalW (spRoom K) [] W (tCons (tVar 0) (tCons (tVar 1) tNil))) sl st Φ := fun c σ e tb s S Q q => by
  obtain ⟨v, h1, h2⟩ := S.2 0 _ h0
  cases h2
  obtain ⟨u, h3, h4⟩ := S.2 1 _ hk
  cases rv_i h4
  subst e
  exact ⟨_, h1, _, h3, c, a, ns, k, rfl, rfl, s, hs.mono tb, k0, fun v c' x y t s' r e2 => q v c' (.o c.st.length) t s' r (by rw [e2]; exact q0 x y)⟩
theorem ev_read {W : WX} {sl : Sl} {st : Sto} {te : TE} {es : List (List PyData)} {ls : List (List Nat)} (h : Ls es ls) (hn : ls.length ≤ 20) (hv : Ev K te sl st (dS (AL.S (txt ls)))) : Ev K (tCalW (spD K (fRead CN)) [] W (tCons te tNil)) sl st (dL (es.map PyData.tuple)) :=
  ev_cal rnil (ea_cons hv ea_nil) ⟨.str (AL.S (txt ls)), rfl, (ls_ok h hn).1, rd_txt h ⟨by rw [(ls_free h).2.1], rfl⟩⟩
theorem ev_readcut {W : WX} {sl : Sl} {st : Sto} {te : TE} {es : List (List PyData)} {ls : List (List Nat)} (h : Ls es ls) (hn : ls.length ≤ 20) (hv : Ev K te sl st (dS (AL.S (txt ls)))) : Ev K (tCalW (spD K (fReadCut CN)) [] W (tCons te tNil)) sl st (dT [.list (es.map PyData.tuple), .str (AL.S [])]) :=
  ev_cal rnil (ea_cons hv ea_nil) ⟨.str (AL.S (txt ls)), rfl, (ls_ok h hn).1, rdCut_txt h ⟨by rw [(ls_free h).2.1], rfl⟩⟩
/-- the part with books -/
theorem wx_book {b : Cf} {sl : Sl} {st : Sto} {te : TE} {W : WX} {G : Sl → AE → Sto → Prop} {Φ : AV → Sto → Prop} (hW : ErrOk K b W G) (h : Ev K te sl st (dL LOG)) (k : Φ (.o st.length) (st ++ bk C st.length 5)) : Wx K b (tMakW C (spD K (fInit C)) [] W (tCons te tNil)) sl st Φ :=
  wx_mak hW rnil (wa_of (ea_cons h ea_nil) ⟨st, rfl, rfl, rfl, k⟩)
theorem ok_law (hgR : Room 12 callerA) (B : BT mg) (F : Fn K "law" 51 f fd) (c__law_room : DefOk P w K mg base 1 "_law_room" [] (spRoom K)) (c__law_take : DefD P w K mg base 1 "_law_take" fTake) (c__law_line_of : DefD P w K mg base 2 "_law_line_of" fShown) (c__law_entry : DefD P w K mg base 3 "_law_entry" fEntry)
    (c_shown : DefD P w K mg base 3 "shown" fShownL) (c_shownT : DefD P w K mg base 3 "shown" fShownT) (k_shown : DefK1 P w K mg base 3 "shown" "entries" (spD K fShownL)) (c_readO : DefD P w K mg base 7 "read" fReadO) (c_read : DefD P w K mg base 7 "read" (fRead CN)) (k_read : DefK1 P w K mg base 7 "read" "text" (spD K (fRead CN))) (c_read_cut : DefD P w K mg base 6 "read_cut" (fReadCut CN))
    (k_Book : MakeOk P w K mg base 9 "Book" C [] (spD K (fInit C))) (m_entries : MtD P w K mg base 1 C "entries" (fEntries C)) (IK : InsK K C) (BK : BkF K C) (o_eq : FnOk P w K mg base (L2.CX P w) 1 fe fde ["self", "other"] (spEq (RBk K C))) (heq : PySem.W.findIn K (.ref C) "__eq__" = some (some (.ref fe))) (hef : PySem.W.isFn K (.ref fe) = true) (b_eq : Binds K fde ["self", "other"] []) : AtC P w K mg base (L2.CX P w) f fd ["_law_script"] (spLaw K 63) := by
  refine FunD.at_ F sc_law (fun vs H Q E h => ?_) hgR (fun cdv s H vs Q E hr hgu h => ?_)
  · obtain ⟨_, _, rfl, _⟩ := h
    rfl
  · obtain ⟨a, ns, rfl, hl, hO, hS, k⟩ := h
    have RC := rcG_ins (X := bodyCx P w K mg base ["_law_script", "_law_k", "_law_room_here", "_law_log", "_law_turn", "_law_kept", "_law_line", "_law_entry_here", "_law_told", "_law_some"] "law" (defScope (top 51)) f cdv callerA [] s H E) o_eq heq hef b_eq passE0
    have hrE := hr.mono (j := 1) (by decide)
    refine ⟨_, (pss_cons (ps_for (passes_of rfl) rfl (x_rng1 B (x_max2 B pe_int (x_min2 B (x_len (K := K) B (pv 0)) pe_int))) (pg_name (i := 1) sc_law.nd rfl (by first | exact Or.inl rfl | exact Or.inr rfl)) (pss_cons (ps_set (i := 2) sc_law.nd rfl (by first | exact Or.inl rfl | exact Or.inr rfl) (pe_f c__law_room hr takesD (pa_cons (pv 0) (pa_cons (pv 1) pa_nil))))
      (pss_cons (ps_setLc (i := 3) (own := [("_law_turn", 4)]) (g := gName 4) (tt := tYes) rfl sc_law.nd rfl rfl (sw_true rfl rfl rfl rfl) (x_rng1 B (pe_f c__law_take hr takesD (pa_cons (pv 2) (pa_cons pe_int pa_nil)))) (blkOk_by (N := ["_law_script", "_law_k", "_law_room_here", "_law_log", "_law_turn", "_law_kept", "_law_line", "_law_entry_here", "_law_told", "_law_some"]) (sc := defScope (top 51)) (by decide +kernel)) (fun _ _ _ _ _ => pg_name (i := 4) sc_law.nd rfl (by first | exact Or.inl rfl | exact Or.inr rfl)) (fun _ _ _ _ _ => pts_nil) (fun _ _ _ _ _ => (pe_f c__law_entry hr takes0 (pa_cons (pv 2) pa_nil))))
      (pss_cons (ps_set (i := 5) sc_law.nd rfl (by first | exact Or.inl rfl | exact Or.inr rfl) (x_repr (K := K) B hgu hr.units (pv 3)))
      (pss_cons (ps_set (i := 6) sc_law.nd rfl (by first | exact Or.inl rfl | exact Or.inr rfl) (x_join (K := K) pe_str (pa_cons (pe_lc (own := [("_law_entry_here", 7)]) (g := gName 7) (tt := tYes) rfl sc_law.nd (pi_list (pv 3)) (blkOk_by (N := ["_law_script", "_law_k", "_law_room_here", "_law_log", "_law_turn", "_law_kept", "_law_line", "_law_entry_here", "_law_told", "_law_some"]) (sc := defScope (top 51)) (by decide +kernel)) (fun _ _ _ _ _ => pg_name (i := 7) sc_law.nd rfl (by first | exact Or.inl rfl | exact Or.inr rfl)) (fun _ _ _ _ _ => pts_nil) (fun _ _ _ _ _ => (x_add (K := K) (pe_f c__law_line_of hr takes0 (pa_cons (pv 7) pa_nil)) pe_str))) pa_nil)))
      (pss_cons (ps_if (PW.pt (pw_or (t_ne (K := K) hr.units (pe_f c_shown hr takesD (pa_cons (pv 3) pa_nil)) (pv 6)) (pw_or (t_ne (K := K) hr.units (pe_fk1 k_shown hr takesD (pv 3)) (pv 6)) (pw_or (t_ne (K := K) hr.units (pe_f c_shownT hr takesD (pa_cons (x_tuple (K := K) B (pv 3)) pa_nil)) (pv 6)) (pw_or1 (t_ne (K := K) hr.units (x_repr (K := K) B hgu hr.units (pv 3)) (pv 5))))))) (pss_one (ps_ret pe_bl)) pss_nil)
      (pss_one (ps_for (passes_of rfl) rfl (x_rng1 B pe_int) (pg_name (i := 4) sc_law.nd rfl (by first | exact Or.inl rfl | exact Or.inr rfl)) (pss_cons (ps_set (i := 8) sc_law.nd rfl (by first | exact Or.inl rfl | exact Or.inr rfl) (pe_f c_readO hr takesD (pa_cons (pv 6) pa_nil)))
      (pss_cons (ps_if (PW.pt (pw_or (t_ne (K := K) hr.units (x_repr (K := K) B hgu hr.units (pv 8)) (pv 5)) (pw_or (t_ne (K := K) hr.units (x_repr (K := K) B hgu hr.units (pe_fk1 k_read hr takesD (pv 6))) (pv 5)) (pw_or1 (t_ne (K := K) hr.units (x_repr (K := K) B hgu hr.units (pe_f c_read_cut hr takesD (pa_cons (pv 6) pa_nil))) (x_repr (K := K) B hgu hr.units (pe_tup (pa_cons (pv 3) (pa_cons pe_str pa_nil))))))))) (pss_one (ps_ret pe_bl)) pss_nil)
      (pss_one (ps_expr (x_app (K := K) (pv 8) (pa_cons pe_non pa_nil))))))))))))))
      (pss_cons (ps_set (i := 9) sc_law.nd rfl (by first | exact Or.inl rfl | exact Or.inr rfl) (pe_lst (pa_cons (pe_tup (pa_cons pe_str (pa_cons (pe_tup (pa_cons pe_str pa_nil)) pa_nil))) (pa_cons (pe_tup (pa_cons pe_str (pa_cons pe_int pa_nil))) (pa_cons (pe_tup (pa_cons pe_str (pa_cons (pe_tup (pa_cons pe_str pa_nil)) (pa_cons pe_int pa_nil)))) (pa_cons (pe_tup (pa_cons pe_str (pa_cons pe_int (pa_cons pe_int (pa_cons pe_int pa_nil))))) (pa_cons (pe_tup (pa_cons pe_str (pa_cons pe_int (pa_cons pe_int (pa_cons pe_int pa_nil))))) pa_nil)))))))
      (pss_cons (ps_set (i := 6) sc_law.nd rfl (by first | exact Or.inl rfl | exact Or.inr rfl) pe_str)
      (pss_cons (ps_if (PW.pt (pw_or (t_ne (K := K) hr.units (pe_f c_shown hr takesD (pa_cons (pe_m0 m_entries hr takesD (pe_k k_Book hr takesD (pa_cons (pv 9) pa_nil))) pa_nil)) (pv 6)) (pw_or1 (pt_not (pt_cmpR (op_eqG RC hrE) (pe_k k_Book hr takesD (pa_cons (pe_f c_read hr takesD (pa_cons (pv 6) pa_nil)) pa_nil)) (pe_k k_Book hr takesD (pa_cons (pv 9) pa_nil)) (nomark _)))))) (pss_one (ps_ret pe_bl)) pss_nil)
      (pss_one (ps_ret (x_eq (K := K) hr.units (pe_f c_shown hr takesD (pa_cons (pe_lst (pa_cons (pe_tup (pa_cons pe_str (pa_cons (pe_tup pa_nil) pa_nil))) pa_nil)) pa_nil)) pe_str))))))), ?_⟩
    let c : Cf := ⟨[], [], H, []⟩
    have s0 : SR K c := ⟨(fun a h => by cases h), (fun a h => by cases h), rfl, List.nodup_nil, (fun a h => by cases h), fun i a o h _ => by cases h⟩
    have hs : Scr K c a ns := scr_of (hO a) (by rintro (h | ⟨i, o, h, _⟩) <;> cases h) hS
    let e : DE := { nx := fun _ _ => False, rt := fun x _ => x = .d (.bool true) }
    refine run_ws (c := c) (e := e) (xs := [.raw (.ref a)]) ?_ s0 (.cons rfl .nil) _ ⟨fun c' σ sl t' s' S' k => k.elim, fun c' v x t' s' r ex => (by
      have ex : x = .d (.bool true) := ex
      subst ex
      cases r
      exact k _), fun c' σ sl _ _ _ k => k.elim, fun c' σ sl _ _ _ k => k.elim⟩
    have hF : ErrOk K c (fun cls d _ H => E cls d H) (fun _ _ _ => False) := fun _ _ _ _ _ _ _ _ _ _ k => k.elim
    refine ws_sq (ws_for (wi_rng1 (wa_cons (wx_cb (wa_cons (wx_of ev_i (wa_cons (wx_cb (wa_cons (wx_lenR hs rfl (wa_of (ea_cons ev_i ea_nil) ⟨_, o_min2, ?_⟩)))))))))))
    refine wa_nil ⟨_, o_max2, wa_nil ⟨_, rfl, ?_, fun i sl st => ∃ x1 x2 x3 x4 x5 x6 x7 x8, sl = [some (.raw (.ref a)), x1, x2, x3, x4, x5, x6, x7, x8, none], ⟨none, none, none, none, none, none, none, none, rfl⟩, ?_, ?_⟩⟩
    · constructor <;> (split <;> split <;> omega)
    · rintro i x sl1 st1 hx ⟨x1, x2, x3, x4, x5, x6, x7, x8, rfl⟩
      have hi : i < 20 ∧ x = dI (i : Nat) := by
        rw [List.getElem?_map] at hx
        cases hr : (List.range (if (if (20:Int) < (ns.length : Int) then (20:Int) else (ns.length : Int)) > 1 then (if (20:Int) < (ns.length : Int) then (20:Int) else (ns.length : Int)) else 1).toNat)[i]? with
        | none => rw [hr] at hx; cases hx
        | some j =>
          rw [hr] at hx
          obtain ⟨h1, h2⟩ := List.getElem?_eq_some_iff.mp hr
          rw [List.getElem_range] at h2
          rw [List.length_range] at h1
          refine ⟨?_, ?_⟩
          · revert h1
            split <;> split <;> omega
          · subst h2
            cases hx
            rfl
      obtain ⟨hi, rfl⟩ := hi
      refine ⟨_, _, eg_name, ?_⟩
      refine ws_sq (ws_asg (wx_room (k := (i : Nat)) hs rfl rfl ⟨by omega, by omega⟩ fun x y => ?_))
      have hn : (st1 ++ [RmO x y])[st1.length]? = some (RmO x y) := by simp
      generalize st1 ++ [RmO x y] = st2 at hn
      generalize st1.length = n at hn
      refine ws_sq (ws_asg (wx_lc (wi_rng1 (wa_cons (wx_cal hF rnil (wa_of (ea_cons (ev_var rfl) (ea_cons ev_i ea_nil)) ⟨n, x, y, 9, rfl, hn, by decide, fun r y1 y2 h0 h1 => ?_⟩))))))
      refine wa_nil ⟨r, rfl, by omega, by rw [List.length_map, List.length_range]; omega, fun i acc st' => ∃ es ls a' b', acc = es.map PyData.tuple ∧ es.length = i ∧ Ls es ls ∧ st' = st2.set n (RmO a' b'), ⟨[], [], y1, y2, rfl, rfl, .nil, rfl⟩, ?_, ?_⟩
      · rintro i z acc st3 hz ⟨es, ls, a1, b1, rfl, hl, hls, rfl⟩ hacc
        refine ⟨_, [4], by decide, eg_name, fun b' => ?_⟩
        have hn1 := set_get (o' := RmO a1 b1) hn
        refine wx_cal hW0 rnil (wa_of (ea_cons (ev_var rfl) ea_nil) ⟨n, a1, b1, rfl, hn1, fun ds a2 b2 hd => ?_⟩)
        obtain ⟨l, hl2⟩ := ls_snoc hls hd
        exact ⟨_, rfl, es ++ [ds], ls ++ [l], a2, b2, by rw [List.map_append]; rfl, by rw [List.length_append]; simp [hl], hl2, by rw [List.set_set]⟩
      · rintro acc st3 ⟨es, ls, a1, b1, rfl, hl, hls, rfl⟩
        rw [List.length_map, List.length_range] at hl
        obtain ⟨g1, g2, g3⟩ := ls_free hls
        have hn20 : ls.length ≤ 20 := by omega
        obtain ⟨⟨w1, w2, w3⟩, v1, v2, v3⟩ := log_showy hls hn20
        rw [g2] at w1 w2 w3 v1 v2 v3
        generalize st2.set n (RmO a1 b1) = st4
        refine ws_asgS (ev_cb (ea_cons (ev_var rfl) ea_nil) (o_repr w1 w2 w3)) ?_
        refine ws_asgS (shown_step (b := c) (j := 7) (ei_list (ev_var rfl)) hls hn20 (Nat.le_of_ble_eq_true rfl)) ?_
        refine ws_guard (p := false) (et_is (et_or (et_test (ev_op (ev_cal rnil (ea_cons (ev_var rfl) ea_nil) ⟨es, ls, rfl, hls, hn20, rfl, rfl⟩) (ev_var rfl) o_neS)) fun _ => et_or (et_test (ev_op (ev_cal rnil (ea_cons (ev_var rfl) ea_nil) ⟨es, ls, rfl, hls, hn20, rfl, rfl⟩) (ev_var rfl) o_neS)) fun _ => et_or (et_test (ev_op (ev_cal rnil (ea_cons (ev_cb (ea_cons (ev_var rfl) ea_nil) o_tupL) ea_nil) ⟨es, ls, rfl, hls, hn20, rfl, rfl⟩) (ev_var rfl) o_neS)) fun _ => et_test (ev_op (ev_cb (ea_cons (ev_var rfl) ea_nil) (o_repr w1 w2 w3)) (ev_var rfl) o_neS)) (by simp)) (fun h => by cases h) fun _ => ?_
        refine ws_for (wi_of (ei_rng1 (ea_cons ev_i ea_nil) ⟨by decide, by decide⟩) ⟨fun j sl st => ∃ x1 x2 x4 x7 x8, sl = [some (.raw (.ref a)), x1, x2, some (dL (es.map PyData.tuple)), x4, some (dS (PyData.list (es.map PyData.tuple)).shown), some (dS (AL.S (txt ls))), x7, x8, none], ⟨_, _, _, _, _, rfl⟩, ?_, ?_⟩)
        · rintro j x sl3 st3 hx ⟨x1, x2, x4, x7, x8, rfl⟩
          refine ⟨_, _, eg_name, ?_⟩
          obtain ⟨t1, t2⟩ := txt_ini (ls := ls) fun l hl => (g1 l hl).1
          refine ws_sq (ws_asg (wx_cal hF rnil (wa_of (ea_cons (ev_var rfl) ea_nil) ⟨txt ls, rfl, (ls_ok hls hn20).1, by rw [t1]; exact ls_none hls, t2, ?_⟩)))
          rw [t1, g2]
          have hn3 : (st3 ++ [AO.lst ((es.map PyData.tuple).map AV.d)])[st3.length]? = some (.lst ((es.map PyData.tuple).map AV.d)) := by simp
          generalize st3 ++ [AO.lst ((es.map PyData.tuple).map AV.d)] = st5 at hn3
          generalize st3.length = m at hn3
          refine ws_guard (p := false) (et_is (et_or (et_test (ev_op (ev_cb (ea_cons (ev_var rfl) ea_nil) (o_reprO hn3 w1 w2 w3)) (ev_var rfl) o_neS)) fun _ => et_or (et_test (ev_op (ev_cb (ea_cons (ev_read hls hn20 (ev_var rfl)) ea_nil) (o_repr w1 w2 w3)) (ev_var rfl) o_neS)) fun _ => et_test (ev_op (ev_cb (ea_cons (ev_readcut hls hn20 (ev_var rfl)) ea_nil) (o_repr v1 v2 v3)) (ev_cb (ea_cons (ev_tup (ds := [.list (es.map PyData.tuple), .str (AL.S [])]) (ea_cons (ev_var rfl) (ea_cons ev_s ea_nil)) (Nat.le_of_ble_eq_true rfl)) ea_nil) (o_repr v1 v2 v3)) o_neS)) (by simp)) (fun h => by cases h) fun _ => ?_
          refine ws_app (n := m) (ev_var rfl) (wx_of ev_n ⟨_, hn3, ?_, ⟨_, _, _, _, _, rfl⟩⟩) ⟨_, hn3⟩
          rw [List.length_map, List.length_map]
          omega
        · rintro sl3 st3 ⟨x1, x2, x4, x7, x8, rfl⟩
          exact ⟨_, _, _, _, _, _, _, _, rfl⟩
    · rintro sl1 st1 ⟨x1, x2, x3, x4, x5, x6, x7, x8, rfl⟩
      have eS : (Str.ofString "make /a\nnumber 1\npiece /a 1\nraise 1 2 20\nedition 1 2 20\n") = AL.S (txt LOGL) := by decide +kernel
      refine ws_asgS (x := dL LOG) (ev_lst (ds := LOG) (ea_cons (ev_tup (ds := [.str "make", PA]) (ea_cons ev_s (ea_cons (ev_tup (ds := [.str "a"]) (ea_cons ev_s ea_nil) (by decide)) ea_nil)) (by decide)) (ea_cons (ev_tup (ds := [.str "number", .int 1]) (ea_cons ev_s (ea_cons ev_i ea_nil)) (by decide)) (ea_cons (ev_tup (ds := [.str "piece", PA, .int 1]) (ea_cons ev_s (ea_cons (ev_tup (ds := [.str "a"]) (ea_cons ev_s ea_nil) (by decide)) (ea_cons ev_i ea_nil))) (by decide)) (ea_cons (ev_tup (ds := [.str "raise", .int 1, .int 2, .int 20]) (ea_cons ev_s (ea_cons ev_i (ea_cons ev_i (ea_cons ev_i ea_nil)))) (by decide)) (ea_cons (ev_tup (ds := [.str "edition", .int 1, .int 2, .int 20]) (ea_cons ev_s (ea_cons ev_i (ea_cons ev_i (ea_cons ev_i ea_nil)))) (by decide)) ea_nil))))) (by decide)) ?_
      refine ws_asgS (x := dS (AL.S (txt LOGL))) (ev_is ev_s (congrArg (fun z => AV.d (.str z)) eS)) ?_
      have hlo : LOGL.length ≤ 20 := by decide
      refine ws_sq (ws_if (wt_or (wt_test (wx_op (wx_cal hF rnil (wa_cons (wx_metX hF rnil (wx_book hF (ev_var rfl) ⟨st1.length, _, rfl, at_ (j := 0) rfl, rfl, [], ea_nil, st1, [], rfl, by rw [List.append_nil], wa_nil ⟨LOGE, LOGL, rfl, ls_log, hlo, ?_⟩⟩))))))))
      refine wx_of (ev_var rfl) ⟨_, o_neS, _, rfl, ?_⟩
      rw [show (!decide (AL.S (txt LOGL) = AL.S (txt LOGL))) = false by simp, if_neg (by decide)]
      generalize hst : st1 ++ bk C st1.length 5 = st2
      refine wt_not (wt_test (wx_op (wx_book hF (ev_read ls_log hlo (ev_var rfl)) (wx_book hF (ev_var rfl) ⟨dB true, ?_, _, rfl, ?_⟩))))
      · have h1 : ∀ j o, (bk C st2.length 5)[j]? = some o → ((st2 ++ bk C st2.length 5) ++ bk C (st2 ++ bk C st2.length 5).length 5)[st2.length + j]? = some o := fun j o h => by
          rw [List.append_assoc]
          refine at_ ?_
          rw [List.getElem?_append_left (List.getElem?_eq_some_iff.mp h).1]
          exact h
        have h2 : ∀ j o, (bk C (st2 ++ bk C st2.length 5).length 5)[j]? = some o → ((st2 ++ bk C st2.length 5) ++ bk C (st2 ++ bk C st2.length 5).length 5)[(st2 ++ bk C st2.length 5).length + j]? = some o := fun j o h => at_ h
        generalize (st2 ++ bk C st2.length 5) ++ bk C (st2 ++ bk C st2.length 5).length 5 = T at h1 h2
        generalize (st2 ++ bk C st2.length 5).length = n2 at h2
        exact o_eqBk (h1 0 _ rfl) (h2 0 _ rfl) IK (fun f hf => BK.na f (by
          simp only [FIVE, FLD, List.mem_cons, List.not_mem_nil, or_false] at hf ⊢
          rcases hf with rfl | rfl | rfl | rfl | rfl <;> simp)) (xs := five C st2.length) (ys := five C n2) rfl rfl (aeq_books h1 h2)
      · refine ws_next ?_
        refine ws_retE (ev_op (ev_cal rnil (ea_cons (ev_lst (ds := [.tuple [.str "make", .tuple []]]) (ea_cons (ev_tup (ds := [.str "make", .tuple []]) (ea_cons ev_s (ea_cons (ev_tup (ds := []) ea_nil (by decide)) ea_nil)) (by decide)) ea_nil) (by decide)) ea_nil) ⟨[[.str "make", .tuple []]], _, rfl, ls_root, by decide, rfl, rfl⟩) ev_s o_eqS) ?_
        show AV.d (.bool (decide (AL.S (txt [[109, 97, 107, 101, 32, 47]]) = _))) = .d (.bool true)
        exact congrArg (fun b => AV.d (.bool b)) (by decide +kernel)
end
end K67

set_option Elab.async false
set_option linter.all false
set_option maxRecDepth 100000
set_option maxHeartbeats 4000000
namespace K67
open PySem PySem.Spec PyProof.Rows L2 AL
open TX (Fl okZ cut)
/-! ### what the head tells -/
def dd (x : Str) (i : Nat) : He.DefD := ⟨(x, none), x, x, defArgs (top i), defBody (top i), defScope (top i), [], []⟩
def ddF : He.DefD := ⟨("is_from", none), "is_from", "is_from", defArgs (top 21), defBody (top 21), defScope (top 21), [.non], []⟩
def dm (x : String) (i : Nat) : He.DefD := ⟨("Book", some (Str.ofString x)), Str.ofString x, Str.ofString ("Book." ++ x), defArgs (mt i), defBody (mt i), defScope (mt i), [], []⟩
def dmI : He.DefD := ⟨("Book", some "__init__"), Str.ofString "__init__", Str.ofString ("Book." ++ "__init__"), defArgs (mt 0), defBody (mt 0), defScope (mt 0), [.adr (He.dflAt ("Book", some "__init__") 0)], []⟩
def initS : Stmt := inClass (top 4) 0
def dInit : He.DefD := ⟨("NoText", some "__init__"), "__init__", "NoText.__init__", defArgs initS, defBody initS, defScope initS, [], []⟩
def fn : List He.DefD := [dd "is_whole" 20, ddF, dd "is_number" 22, dd "is_word" 23, dd "is_path" 24, dd "is_time" 26, dd "is_entry" 29, dd "word_of" 36, dd "shown_entry" 37, dd "shown" 38, dd "thing_in" 39, dd "entry_in" 40, dd "entries_in" 41, dd "read_cut" 42, dd "read" 43, dd "_law_room" 45, dd "_law_take" 46, dd "_law_word_of" 47, dd "_law_line_of" 48, dd "_law_path" 49, dd "_law_entry" 50, dd "law" 51, dmI, dm "note_one" 1, dm "is_file" 2, dm "look_on_way" 3, dm "look_at_there" 4, dm "look_at_new" 5, dm "look_at_file" 6, dm "look_at_path" 7, dm "is_fresh" 9, dm "look_at_piece" 10, dm "look_at_numbers" 11, dm "look_at_editions" 12, dm "look_at" 14, dm "note" 17, dm "note_piece" 20, dm "all_lists" 21, dm "forget" 22, dm "entries" 36, dm "__eq__" 39, dInit]
def fa : List He.Fa := [.glo "LeaseError", .glo "NoText", .glo "FORMS", .glo "NEW", .glo "Book", .glo "is_whole", .glo "is_from", .glo "is_number", .glo "is_word", .glo "is_path", .glo "is_time", .glo "is_entry", .glo "word_of", .glo "shown_entry", .glo "shown", .glo "thing_in", .glo "entry_in", .glo "entries_in", .glo "read_cut", .glo "read", .glo "_law_room", .glo "_law_take", .glo "_law_word_of", .glo "_law_line_of", .glo "_law_path", .glo "_law_entry", .glo "law", .free "isinstance", .free "all", .free "any", .free "len", .free "str", .free "int", .free "bool", .free "tuple", .free "list", .free "dict", .free "set", .free "range", .free "zip", .free "enumerate", .free "sum", .free "max", .free "min", .free "sorted", .free "repr", .free "ord", .int "LONGEST" 8, .int "DEEPEST" 5, .int "MOST_FIGURES" 30, .str "LETTERS" LETTERS, .str "NONE" (AL.S [45]), .str "FIGURES" FIGS, .cls "Book", .mkr "Book", .noat "Book" "trees", .noat "Book" "away_now", .noat "Book" "many_away", .noat "Book" "rows", .noat "Book" "spent", .noat "Book" "next", .noat "Book" "own_entries", .meth "Book" "note_one", .meth "Book" "is_file", .meth "Book" "look_on_way", .meth "Book" "look_at_there", .meth "Book" "look_at_new", .meth "Book" "look_at_file", .meth "Book" "look_at_path", .meth "Book" "is_fresh", .meth "Book" "look_at_piece", .meth "Book" "look_at_numbers", .meth "Book" "look_at_editions", .meth "Book" "look_at", .meth "Book" "note", .meth "Book" "note_piece", .meth "Book" "all_lists", .meth "Book" "forget", .meth "Book" "entries", .meth "Book" "__eq__"]
def aF (K : PySem.W.Frag) : Ads := ⟨He.ga K "is_path", He.ga K "is_whole", He.ga K "is_time"⟩
def dF (K : PySem.W.Frag) : Addr := He.ga K "FORMS"
def ts : List He.Tab := [(dF, forms.map (·.1))]
def formsB (K : PySem.W.Frag) : Bool := keysB K (dF K) (forms.map (·.1)) && (!(decide ((aF K).p = (aF K).w)) && (!(decide ((aF K).p = (aF K).t)) && (!(decide ((aF K).w = (aF K).t)) &&
  forms.all fun q => decide (PySem.W.nsIn K (dF K) q.1 = some (some (.ref (atKey K (dF K) q.1)))) && tupAt K (atKey K (dF K) q.1) (q.2.map fun k => V.ref ((aF K).of k)))))
theorem formsB_ok {K : PySem.W.Frag} {w : World} (kd : ∃ es n, KDict K w (dF K) es n) (h : formsB K = true) : FormsOk K w (dF K) (aF K) := by
  obtain ⟨h1, h⟩ := ba h
  obtain ⟨h2, h⟩ := ba h
  obtain ⟨h3, h⟩ := ba h
  obtain ⟨h4, h5⟩ := ba h
  refine ⟨kd, fun z ks hf => ?_, fun z hf => keysB_miss h1 fun hz => ?_, by simpa using h2, by simpa using h3, by simpa using h4⟩
  · unfold formOf at hf
    cases hq : forms.find? (fun q => decide (q.1 = z)) with
    | none => rw [hq] at hf; cases hf
    | some q =>
      rw [hq] at hf
      cases hf
      have hz : q.1 = z := by
        have := List.find?_some hq
        exact of_decide_eq_true this
      obtain ⟨g1, g2⟩ := ba (List.all_eq_true.mp h5 q (List.mem_of_find?_eq_some hq))
      have g1 := of_decide_eq_true g1
      obtain ⟨es, n, D⟩ := kd
      subst hz
      exact ⟨_, ⟨es, n, _, D.at_, D.lit, g1, rfl⟩, ⟨_, g1⟩, tupAt_ok g2⟩
  · unfold formOf at hf
    obtain ⟨q, hq, e⟩ := List.mem_map.mp hz
    cases hq2 : forms.find? (fun q => decide (q.1 = z)) with
    | some q => rw [hq2] at hf; cases hf
    | none =>
      have := List.find?_eq_none.mp hq2 q hq
      exact this (decide_eq_true e)

abbrev cT (K : PySem.W.Frag) : Addr := He.ga K "NoText"
abbrev cB (K : PySem.W.Frag) : Addr := He.ga K "Book"
def iT (K : PySem.W.Frag) : Addr := He.ma K (cT K) "__init__"
def bookB (K : PySem.W.Frag) : Bool := decide (PySem.W.findIn K (.ref (cB K)) "__class__" = some (some (.builtin "object.__class__"))) && (decide (PySem.W.specialIn K (.builtin "object.__class__") "__get__" = some (some (.builtin "getset_descriptor.__get__"))) && (decide (PySem.W.takesIn K (.builtin "object.__class__") = some true) && (decide (PySem.W.mroIn K (cB K) (.type "object") = some true) && (decide (PySem.W.kitOne K (.ref (cB K)) (.ref (cB K)) = some true) && tupAt K (He.ga K "NEW") (NEWS.map V.str)))))
theorem bookB_ok {K : PySem.W.Frag} (h : bookB K = true) (c : Cls K (cB K)) : InsK K (cB K) ∧ ∀ H, SqT K H (He.ga K "NEW") (NEWS.map V.str) := by
  obtain ⟨h1, h⟩ := ba h
  obtain ⟨h2, h⟩ := ba h
  obtain ⟨h3, h⟩ := ba h
  obtain ⟨h4, h⟩ := ba h
  obtain ⟨h5, h6⟩ := ba h
  exact ⟨⟨c, of_decide_eq_true h1, of_decide_eq_true h2, of_decide_eq_true h3, of_decide_eq_true h4, of_decide_eq_true h5⟩, tupAt_ok h6⟩
def exB (K : PySem.W.Frag) : Bool := oexB K (cT K) && (decide (PySem.W.findIn K (.ref (cT K)) "row" = some none) && (dinitB K (He.ga K "LeaseError") && (decide (PySem.W.findIn K (.ref (cT K)) "__init__" = some (some (.ref (iT K)))) && (decide (PySem.W.typeIn K (.ref (iT K)) = some (.type "function")) && (formsB K && bookB K)))))
theorem sc_init : FnScope ["self", "row"] ["self", "row"] (defScope initS) := C8.fnScope_by (by decide +kernel)
section
variable {P : Program} {w : World} {K : PySem.W.Frag} {mg : Str → Option Value} {base : Heap} {f d C L C2 C3 C4 : Addr} {fd : FuncData} {a : Ads}
theorem ok_init (F : FunD K "__init__" "NoText.__init__" (defArgs initS) (defBody initS) (defScope initS) [] [] f fd) (T : OexC K C) (hno : PySem.W.findIn K (.ref C) "row" = some none) (hD : DInit K mg "LeaseError") : FnOk P w K mg base (L2.CX P w) 1 f fd ["self", "row"] (spInit C "row") := by
  refine F.ok sc_init (fun vs H Q E h => ?_) (fun cdv A outer s H vs Q E hr h => ⟨_, pss_cons (ps_expr (pe_dinit hD (pa_cons (pv 0) (pa_cons (pv 1) pa_nil)))) (pss_one (ps_ost (f := "row") (pv 0) (pv 1))), run_init T hno h⟩)
  obtain ⟨_, _, rfl, _⟩ := h
  rfl
theorem defOk {x qual : Str} {k : Nat} {ps : List Str} {sp : Sp} {params : Arguments} {body : List Stmt} {scope : Scope} (F : FunD K x qual params body scope [] [] f fd) (G : FnOk P w K mg base (L2.CX P w) k f fd ps sp) {y : Str} (hm : mg y = some (.ref f)) (hb : Binds K fd ps []) : DefOk P w K mg base k y [] sp := ⟨f, fd, ps, [], G, hm, F.kp, hb, .nil⟩
theorem heldOk {x qual : Str} {j k : Nat} {ps : List Str} {sp : Sp} {params : Arguments} {body : List Stmt} {scope : Scope} (F : FunD K x qual params body scope [] [] f fd) (G : FnOk P w K mg base (L2.CX P w) j f fd ps sp) (h : j ≤ k) (hb : Binds K fd ps []) : HeldD P w K mg base k f sp := ⟨fd, ps, G.mono h, F.kp, hb⟩

theorem methOk {x qual : Str} {k : Nat} {ps : List Str} {sp : Sp} {params : Arguments} {body : List Stmt} {scope : Scope} {m : Str} (F : FunD K x qual params body scope [] [] f fd) (c : Cls K C) (hm : Meth K C m f) (G : FnOk P w K mg base (L2.CX P w) k f fd ps sp) (hb : Binds K fd ps []) : MethOk P w K mg base k C m [] sp := ⟨f, fd, ps, [], c, hm, G, hb, .nil⟩
theorem kwOk {x qual nm : Str} {k : Nat} {sp : Sp} {params : Arguments} {body : List Stmt} {scope : Scope} (F : FunD K x qual params body scope [] [] f fd) (G : FnOk P w K mg base (L2.CX P w) k f fd [nm] sp) {y : Str} (hm : mg y = some (.ref f))
    (h : ∀ (kV doc pm : Value) (an : Option Addr) (cdv ct : Value) (v : Value), bindArgs (PySem.W.fnOf x qual params body scope .none kV doc pm an cdv ct) ⟨[], [(nm, v)]⟩ = pure [(nm, v)]) : DefK1 P w K mg base k y nm sp := ⟨f, fd, G, hm, F.kp, fun s v => by
  obtain ⟨oc, od, dV, kV, doc, pm, an, cdv, ct, osl, rfl, lk, hcd, hD, hK⟩ := F.ex
  rcases hD with ⟨_, rfl⟩ | ⟨e, _⟩
  · exact .of_eq (h kV doc pm an cdv ct v)
  · exact absurd rfl e⟩
end

theorem facts {P : Program} {w : World} {K : PySem.W.Frag} {h : Heap} {mg : Str → Option Value} {fL : Addr} (X : K.In h) (G : h.Ns mainGlobals mg) (hfa : mg ("law" : Str) = some (.ref fL)) (c : SaysZ fa fn ts exB w K) :
    ∃ fd : FuncData, (∀ (s : Shared) (v : Value), BindsTo s fd ⟨[v], []⟩ [("_law_script", v)]) ∧ ∀ base : Heap, K.In base → base.Ns mainGlobals mg → AtC P w K mg base (L2.CX P w) fL fd ["_law_script"] (spLaw K 63) := by
  obtain ⟨c0, cx⟩ := c
  have cd : He.SaysD fa fn K := c0.d
  have ckd : ∃ es n, KDict K w (dF K) es n := c0.tab 0 rfl
  obtain ⟨x1, cx⟩ := ba cx
  obtain ⟨x2, cx⟩ := ba cx
  obtain ⟨x3, cx⟩ := ba cx
  obtain ⟨x4, cx⟩ := ba cx
  obtain ⟨x5, cx⟩ := ba cx
  obtain ⟨x6, x7⟩ := ba cx
  have TC := oexB_ok x1
  have FO := formsB_ok ckd x6
  have m_LeaseError := He.glo_ok X G (cd.fact 0 (f := .glo "LeaseError") rfl)
  have m_NoText := He.glo_ok X G (cd.fact 1 (f := .glo "NoText") rfl)
  have m_FORMS := He.glo_ok X G (cd.fact 2 (f := .glo "FORMS") rfl)
  have m_NEW := He.glo_ok X G (cd.fact 3 (f := .glo "NEW") rfl)
  have m_Book := He.glo_ok X G (cd.fact 4 (f := .glo "Book") rfl)
  have m_is_whole := He.glo_ok X G (cd.fact 5 (f := .glo "is_whole") rfl)
  have m_is_from := He.glo_ok X G (cd.fact 6 (f := .glo "is_from") rfl)
  have m_is_number := He.glo_ok X G (cd.fact 7 (f := .glo "is_number") rfl)
  have m_is_word := He.glo_ok X G (cd.fact 8 (f := .glo "is_word") rfl)
  have m_is_path := He.glo_ok X G (cd.fact 9 (f := .glo "is_path") rfl)
  have m_is_time := He.glo_ok X G (cd.fact 10 (f := .glo "is_time") rfl)
  have m_is_entry := He.glo_ok X G (cd.fact 11 (f := .glo "is_entry") rfl)
  have m_word_of := He.glo_ok X G (cd.fact 12 (f := .glo "word_of") rfl)
  have m_shown_entry := He.glo_ok X G (cd.fact 13 (f := .glo "shown_entry") rfl)
  have m_shown := He.glo_ok X G (cd.fact 14 (f := .glo "shown") rfl)
  have m_thing_in := He.glo_ok X G (cd.fact 15 (f := .glo "thing_in") rfl)
  have m_entry_in := He.glo_ok X G (cd.fact 16 (f := .glo "entry_in") rfl)
  have m_entries_in := He.glo_ok X G (cd.fact 17 (f := .glo "entries_in") rfl)
  have m_read_cut := He.glo_ok X G (cd.fact 18 (f := .glo "read_cut") rfl)
  have m_read := He.glo_ok X G (cd.fact 19 (f := .glo "read") rfl)
  have m__law_room := He.glo_ok X G (cd.fact 20 (f := .glo "_law_room") rfl)
  have m__law_take := He.glo_ok X G (cd.fact 21 (f := .glo "_law_take") rfl)
  have m__law_word_of := He.glo_ok X G (cd.fact 22 (f := .glo "_law_word_of") rfl)
  have m__law_line_of := He.glo_ok X G (cd.fact 23 (f := .glo "_law_line_of") rfl)
  have m__law_path := He.glo_ok X G (cd.fact 24 (f := .glo "_law_path") rfl)
  have m__law_entry := He.glo_ok X G (cd.fact 25 (f := .glo "_law_entry") rfl)
  have m_law := He.glo_ok X G (cd.fact 26 (f := .glo "law") rfl)
  have B : BT mg := ⟨He.free_ok X G (cd.fact 27 (f := .free "isinstance") rfl), He.free_ok X G (cd.fact 28 (f := .free "all") rfl), He.free_ok X G (cd.fact 29 (f := .free "any") rfl), He.free_ok X G (cd.fact 30 (f := .free "len") rfl), He.free_ok X G (cd.fact 31 (f := .free "str") rfl), He.free_ok X G (cd.fact 32 (f := .free "int") rfl), He.free_ok X G (cd.fact 33 (f := .free "bool") rfl), He.free_ok X G (cd.fact 34 (f := .free "tuple") rfl), He.free_ok X G (cd.fact 35 (f := .free "list") rfl), He.free_ok X G (cd.fact 36 (f := .free "dict") rfl), He.free_ok X G (cd.fact 37 (f := .free "set") rfl), He.free_ok X G (cd.fact 38 (f := .free "range") rfl), He.free_ok X G (cd.fact 39 (f := .free "zip") rfl), He.free_ok X G (cd.fact 40 (f := .free "enumerate") rfl), He.free_ok X G (cd.fact 41 (f := .free "sum") rfl), He.free_ok X G (cd.fact 42 (f := .free "max") rfl), He.free_ok X G (cd.fact 43 (f := .free "min") rfl), He.free_ok X G (cd.fact 44 (f := .free "sorted") rfl), He.free_ok X G (cd.fact 45 (f := .free "repr") rfl), He.free_ok X G (cd.fact 46 (f := .free "ord") rfl)⟩
  obtain ⟨t_LONGEST, q_LONGEST⟩ := He.int_ok X G (cd.fact 47 (f := .int "LONGEST" 8) rfl)
  have g_LONGEST : ∃ u, mg "LONGEST" = some u ∧ RelV (.int 8) u := ⟨_, q_LONGEST, ⟨_, rfl⟩⟩
  obtain ⟨t_DEEPEST, q_DEEPEST⟩ := He.int_ok X G (cd.fact 48 (f := .int "DEEPEST" 5) rfl)
  have g_DEEPEST : ∃ u, mg "DEEPEST" = some u ∧ RelV (.int 5) u := ⟨_, q_DEEPEST, ⟨_, rfl⟩⟩
  obtain ⟨t_MOST_FIGURES, q_MOST_FIGURES⟩ := He.int_ok X G (cd.fact 49 (f := .int "MOST_FIGURES" 30) rfl)
  have g_MOST_FIGURES : ∃ u, mg "MOST_FIGURES" = some u ∧ RelV (.int 30) u := ⟨_, q_MOST_FIGURES, ⟨_, rfl⟩⟩
  obtain ⟨t_LETTERS, q_LETTERS⟩ := He.str_ok X G (cd.fact 50 (f := .str "LETTERS" LETTERS) rfl)
  have g_LETTERS : ∃ u, mg "LETTERS" = some u ∧ RelV (.str LETTERS) u := ⟨_, q_LETTERS, ⟨_, rfl⟩⟩
  obtain ⟨t_NONE, q_NONE⟩ := He.str_ok X G (cd.fact 51 (f := .str "NONE" (AL.S [45])) rfl)
  have g_NONE : ∃ u, mg "NONE" = some u ∧ RelV (.str (AL.S [45])) u := ⟨_, q_NONE, ⟨_, rfl⟩⟩
  obtain ⟨t_FIGURES, q_FIGURES⟩ := He.str_ok X G (cd.fact 52 (f := .str "FIGURES" FIGS) rfl)
  have g_FIGURES : ∃ u, mg "FIGURES" = some u ∧ RelV (.str FIGS) u := ⟨_, q_FIGURES, ⟨_, rfl⟩⟩
  have CB : Cls K (cB K) := He.cls_ok (cd.fact 53 (f := .cls "Book") rfl)
  have MB := He.mkr_ok (cd.fact 54 (f := .mkr "Book") rfl)
  have BK : BkF K (cB K) := ⟨CB, fun f hf => by
    simp only [FLD, List.mem_cons, List.not_mem_nil, or_false] at hf
    rcases hf with rfl | rfl | rfl | rfl | rfl | rfl | rfl
    · exact He.noat_ok (cd.fact 55 (f := .noat "Book" "trees") rfl)
    · exact He.noat_ok (cd.fact 56 (f := .noat "Book" "away_now") rfl)
    · exact He.noat_ok (cd.fact 57 (f := .noat "Book" "many_away") rfl)
    · exact He.noat_ok (cd.fact 58 (f := .noat "Book" "rows") rfl)
    · exact He.noat_ok (cd.fact 59 (f := .noat "Book" "spent") rfl)
    · exact He.noat_ok (cd.fact 60 (f := .noat "Book" "next") rfl)
    · exact He.noat_ok (cd.fact 61 (f := .noat "Book" "own_entries") rfl)⟩
  have M_note_one := He.meth_ok (cd.fact 62 (f := .meth "Book" "note_one") rfl)
  have M_is_file := He.meth_ok (cd.fact 63 (f := .meth "Book" "is_file") rfl)
  have M_look_on_way := He.meth_ok (cd.fact 64 (f := .meth "Book" "look_on_way") rfl)
  have M_look_at_there := He.meth_ok (cd.fact 65 (f := .meth "Book" "look_at_there") rfl)
  have M_look_at_new := He.meth_ok (cd.fact 66 (f := .meth "Book" "look_at_new") rfl)
  have M_look_at_file := He.meth_ok (cd.fact 67 (f := .meth "Book" "look_at_file") rfl)
  have M_look_at_path := He.meth_ok (cd.fact 68 (f := .meth "Book" "look_at_path") rfl)
  have M_is_fresh := He.meth_ok (cd.fact 69 (f := .meth "Book" "is_fresh") rfl)
  have M_look_at_piece := He.meth_ok (cd.fact 70 (f := .meth "Book" "look_at_piece") rfl)
  have M_look_at_numbers := He.meth_ok (cd.fact 71 (f := .meth "Book" "look_at_numbers") rfl)
  have M_look_at_editions := He.meth_ok (cd.fact 72 (f := .meth "Book" "look_at_editions") rfl)
  have M_look_at := He.meth_ok (cd.fact 73 (f := .meth "Book" "look_at") rfl)
  have M_note := He.meth_ok (cd.fact 74 (f := .meth "Book" "note") rfl)
  have M_note_piece := He.meth_ok (cd.fact 75 (f := .meth "Book" "note_piece") rfl)
  have M_all_lists := He.meth_ok (cd.fact 76 (f := .meth "Book" "all_lists") rfl)
  have M_forget := He.meth_ok (cd.fact 77 (f := .meth "Book" "forget") rfl)
  have M_entries := He.meth_ok (cd.fact 78 (f := .meth "Book" "entries") rfl)
  have M___eq__ := He.meth_ok (cd.fact 79 (f := .meth "Book" "__eq__") rfl)
  obtain ⟨IK, TN⟩ := bookB_ok x7 CB
  have g_LeaseError : ∃ u, mg "LeaseError" = some u ∧ RelV (.ref (He.ga K "LeaseError")) u := ⟨_, m_LeaseError, rfl⟩
  have g_NoText : ∃ u, mg "NoText" = some u ∧ RelV (.ref (He.ga K "NoText")) u := ⟨_, m_NoText, rfl⟩
  have g_FORMS : ∃ u, mg "FORMS" = some u ∧ RelV (.ref (He.ga K "FORMS")) u := ⟨_, m_FORMS, rfl⟩
  have g_NEW : ∃ u, mg "NEW" = some u ∧ RelV (.ref (He.ga K "NEW")) u := ⟨_, m_NEW, rfl⟩
  have g_Book : ∃ u, mg "Book" = some u ∧ RelV (.ref (He.ga K "Book")) u := ⟨_, m_Book, rfl⟩
  obtain ⟨fd_is_whole, F_is_whole⟩ := cd.def_ 0 (d := dd "is_whole" 20) rfl
  obtain ⟨fd_is_from, F_is_from⟩ := cd.def_ 1 (d := ddF) rfl
  obtain ⟨fd_is_number, F_is_number⟩ := cd.def_ 2 (d := dd "is_number" 22) rfl
  obtain ⟨fd_is_word, F_is_word⟩ := cd.def_ 3 (d := dd "is_word" 23) rfl
  obtain ⟨fd_is_path, F_is_path⟩ := cd.def_ 4 (d := dd "is_path" 24) rfl
  obtain ⟨fd_is_time, F_is_time⟩ := cd.def_ 5 (d := dd "is_time" 26) rfl
  obtain ⟨fd_is_entry, F_is_entry⟩ := cd.def_ 6 (d := dd "is_entry" 29) rfl
  obtain ⟨fd_word_of, F_word_of⟩ := cd.def_ 7 (d := dd "word_of" 36) rfl
  obtain ⟨fd_shown_entry, F_shown_entry⟩ := cd.def_ 8 (d := dd "shown_entry" 37) rfl
  obtain ⟨fd_shown, F_shown⟩ := cd.def_ 9 (d := dd "shown" 38) rfl
  obtain ⟨fd_thing_in, F_thing_in⟩ := cd.def_ 10 (d := dd "thing_in" 39) rfl
  obtain ⟨fd_entry_in, F_entry_in⟩ := cd.def_ 11 (d := dd "entry_in" 40) rfl
  obtain ⟨fd_entries_in, F_entries_in⟩ := cd.def_ 12 (d := dd "entries_in" 41) rfl
  obtain ⟨fd_read_cut, F_read_cut⟩ := cd.def_ 13 (d := dd "read_cut" 42) rfl
  obtain ⟨fd_read, F_read⟩ := cd.def_ 14 (d := dd "read" 43) rfl
  obtain ⟨fd__law_room, F__law_room⟩ := cd.def_ 15 (d := dd "_law_room" 45) rfl
  obtain ⟨fd__law_take, F__law_take⟩ := cd.def_ 16 (d := dd "_law_take" 46) rfl
  obtain ⟨fd__law_word_of, F__law_word_of⟩ := cd.def_ 17 (d := dd "_law_word_of" 47) rfl
  obtain ⟨fd__law_line_of, F__law_line_of⟩ := cd.def_ 18 (d := dd "_law_line_of" 48) rfl
  obtain ⟨fd__law_path, F__law_path⟩ := cd.def_ 19 (d := dd "_law_path" 49) rfl
  obtain ⟨fd__law_entry, F__law_entry⟩ := cd.def_ 20 (d := dd "_law_entry" 50) rfl
  obtain ⟨fd_law, F_law⟩ := cd.def_ 21 (d := dd "law" 51) rfl
  obtain ⟨fdM___init__, N___init__⟩ := cd.def_ 22 (d := dmI) rfl
  obtain ⟨fdM_note_one, N_note_one⟩ := cd.def_ 23 (d := dm "note_one" 1) rfl
  obtain ⟨fdM_is_file, N_is_file⟩ := cd.def_ 24 (d := dm "is_file" 2) rfl
  obtain ⟨fdM_look_on_way, N_look_on_way⟩ := cd.def_ 25 (d := dm "look_on_way" 3) rfl
  obtain ⟨fdM_look_at_there, N_look_at_there⟩ := cd.def_ 26 (d := dm "look_at_there" 4) rfl
  obtain ⟨fdM_look_at_new, N_look_at_new⟩ := cd.def_ 27 (d := dm "look_at_new" 5) rfl
  obtain ⟨fdM_look_at_file, N_look_at_file⟩ := cd.def_ 28 (d := dm "look_at_file" 6) rfl
  obtain ⟨fdM_look_at_path, N_look_at_path⟩ := cd.def_ 29 (d := dm "look_at_path" 7) rfl
  obtain ⟨fdM_is_fresh, N_is_fresh⟩ := cd.def_ 30 (d := dm "is_fresh" 9) rfl
  obtain ⟨fdM_look_at_piece, N_look_at_piece⟩ := cd.def_ 31 (d := dm "look_at_piece" 10) rfl
  obtain ⟨fdM_look_at_numbers, N_look_at_numbers⟩ := cd.def_ 32 (d := dm "look_at_numbers" 11) rfl
  obtain ⟨fdM_look_at_editions, N_look_at_editions⟩ := cd.def_ 33 (d := dm "look_at_editions" 12) rfl
  obtain ⟨fdM_look_at, N_look_at⟩ := cd.def_ 34 (d := dm "look_at" 14) rfl
  obtain ⟨fdM_note, N_note⟩ := cd.def_ 35 (d := dm "note" 17) rfl
  obtain ⟨fdM_note_piece, N_note_piece⟩ := cd.def_ 36 (d := dm "note_piece" 20) rfl
  obtain ⟨fdM_all_lists, N_all_lists⟩ := cd.def_ 37 (d := dm "all_lists" 21) rfl
  obtain ⟨fdM_forget, N_forget⟩ := cd.def_ 38 (d := dm "forget" 22) rfl
  obtain ⟨fdM_entries, N_entries⟩ := cd.def_ 39 (d := dm "entries" 36) rfl
  obtain ⟨fdM___eq__, N___eq__⟩ := cd.def_ 40 (d := dm "__eq__" 39) rfl
  obtain ⟨fd_init, F_init⟩ := cd.def_ 41 (d := dInit) rfl
  have b_is_whole : Binds K fd_is_whole ["thing"] [] := F_is_whole.bindsN fun _ _ _ _ _ _ us hl => match us, hl with | [_], _ => rfl
  have b_is_number : Binds K fd_is_number ["thing"] [] := F_is_number.bindsN fun _ _ _ _ _ _ us hl => match us, hl with | [_], _ => rfl
  have b_is_word : Binds K fd_is_word ["thing"] [] := F_is_word.bindsN fun _ _ _ _ _ _ us hl => match us, hl with | [_], _ => rfl
  have b_is_path : Binds K fd_is_path ["thing"] [] := F_is_path.bindsN fun _ _ _ _ _ _ us hl => match us, hl with | [_], _ => rfl
  have b_is_time : Binds K fd_is_time ["thing"] [] := F_is_time.bindsN fun _ _ _ _ _ _ us hl => match us, hl with | [_], _ => rfl
  have b_is_entry : Binds K fd_is_entry ["thing"] [] := F_is_entry.bindsN fun _ _ _ _ _ _ us hl => match us, hl with | [_], _ => rfl
  have b_word_of : Binds K fd_word_of ["thing"] [] := F_word_of.bindsN fun _ _ _ _ _ _ us hl => match us, hl with | [_], _ => rfl
  have b_shown_entry : Binds K fd_shown_entry ["entry"] [] := F_shown_entry.bindsN fun _ _ _ _ _ _ us hl => match us, hl with | [_], _ => rfl
  have b_shown : Binds K fd_shown ["entries"] [] := F_shown.bindsN fun _ _ _ _ _ _ us hl => match us, hl with | [_], _ => rfl
  have b_thing_in : Binds K fd_thing_in ["word"] [] := F_thing_in.bindsN fun _ _ _ _ _ _ us hl => match us, hl with | [_], _ => rfl
  have b_entry_in : Binds K fd_entry_in ["row"] [] := F_entry_in.bindsN fun _ _ _ _ _ _ us hl => match us, hl with | [_], _ => rfl
  have b_entries_in : Binds K fd_entries_in ["rows"] [] := F_entries_in.bindsN fun _ _ _ _ _ _ us hl => match us, hl with | [_], _ => rfl
  have b_read_cut : Binds K fd_read_cut ["text"] [] := F_read_cut.bindsN fun _ _ _ _ _ _ us hl => match us, hl with | [_], _ => rfl
  have b_read : Binds K fd_read ["text"] [] := F_read.bindsN fun _ _ _ _ _ _ us hl => match us, hl with | [_], _ => rfl
  have b__law_room : Binds K fd__law_room ["_law_script", "_law_k"] [] := F__law_room.bindsN fun _ _ _ _ _ _ us hl => match us, hl with | [_, _], _ => rfl
  have b__law_take : Binds K fd__law_take ["_law_room_here", "_law_many"] [] := F__law_take.bindsN fun _ _ _ _ _ _ us hl => match us, hl with | [_, _], _ => rfl
  have b__law_word_of : Binds K fd__law_word_of ["_law_thing"] [] := F__law_word_of.bindsN fun _ _ _ _ _ _ us hl => match us, hl with | [_], _ => rfl
  have b__law_line_of : Binds K fd__law_line_of ["_law_entry_here"] [] := F__law_line_of.bindsN fun _ _ _ _ _ _ us hl => match us, hl with | [_], _ => rfl
  have b__law_path : Binds K fd__law_path ["_law_room_here"] [] := F__law_path.bindsN fun _ _ _ _ _ _ us hl => match us, hl with | [_], _ => rfl
  have b__law_entry : Binds K fd__law_entry ["_law_room_here"] [] := F__law_entry.bindsN fun _ _ _ _ _ _ us hl => match us, hl with | [_], _ => rfl
  have bM_note_one : Binds K fdM_note_one ["self", "number", "entry"] [] := N_note_one.bindsN fun _ _ _ _ _ _ us hl => match us, hl with | [_, _, _], _ => rfl
  have bM_is_file : Binds K fdM_is_file ["self", "path"] [] := N_is_file.bindsN fun _ _ _ _ _ _ us hl => match us, hl with | [_, _], _ => rfl
  have bM_look_on_way : Binds K fdM_look_on_way ["self", "path"] [] := N_look_on_way.bindsN fun _ _ _ _ _ _ us hl => match us, hl with | [_, _], _ => rfl
  have bM_look_at_there : Binds K fdM_look_at_there ["self", "path"] [] := N_look_at_there.bindsN fun _ _ _ _ _ _ us hl => match us, hl with | [_, _], _ => rfl
  have bM_look_at_new : Binds K fdM_look_at_new ["self", "path"] [] := N_look_at_new.bindsN fun _ _ _ _ _ _ us hl => match us, hl with | [_, _], _ => rfl
  have bM_look_at_file : Binds K fdM_look_at_file ["self", "path"] [] := N_look_at_file.bindsN fun _ _ _ _ _ _ us hl => match us, hl with | [_, _], _ => rfl
  have bM_look_at_path : Binds K fdM_look_at_path ["self", "word", "path"] [] := N_look_at_path.bindsN fun _ _ _ _ _ _ us hl => match us, hl with | [_, _, _], _ => rfl
  have bM_is_fresh : Binds K fdM_is_fresh ["self", "thing"] [] := N_is_fresh.bindsN fun _ _ _ _ _ _ us hl => match us, hl with | [_, _], _ => rfl
  have bM_look_at_piece : Binds K fdM_look_at_piece ["self", "thing"] [] := N_look_at_piece.bindsN fun _ _ _ _ _ _ us hl => match us, hl with | [_, _], _ => rfl
  have bM_look_at_numbers : Binds K fdM_look_at_numbers ["self", "word", "path", "rest"] [] := N_look_at_numbers.bindsN fun _ _ _ _ _ _ us hl => match us, hl with | [_, _, _, _], _ => rfl
  have bM_look_at_editions : Binds K fdM_look_at_editions ["self", "word", "number", "edition"] [] := N_look_at_editions.bindsN fun _ _ _ _ _ _ us hl => match us, hl with | [_, _, _, _], _ => rfl
  have bM_look_at : Binds K fdM_look_at ["self", "entry"] [] := N_look_at.bindsN fun _ _ _ _ _ _ us hl => match us, hl with | [_, _], _ => rfl
  have bM_note : Binds K fdM_note ["self", "entry"] [] := N_note.bindsN fun _ _ _ _ _ _ us hl => match us, hl with | [_, _], _ => rfl
  have bM_note_piece : Binds K fdM_note_piece ["self", "word", "rest"] [] := N_note_piece.bindsN fun _ _ _ _ _ _ us hl => match us, hl with | [_, _, _], _ => rfl
  have bM_all_lists : Binds K fdM_all_lists ["self"] [] := N_all_lists.bindsN fun _ _ _ _ _ _ us hl => match us, hl with | [_], _ => rfl
  have bM_forget : Binds K fdM_forget ["self"] [] := N_forget.bindsN fun _ _ _ _ _ _ us hl => match us, hl with | [_], _ => rfl
  have bM_entries : Binds K fdM_entries ["self"] [] := N_entries.bindsN fun _ _ _ _ _ _ us hl => match us, hl with | [_], _ => rfl
  have bM___eq__ : Binds K fdM___eq__ ["self", "other"] [] := N___eq__.bindsN fun _ _ _ _ _ _ us hl => match us, hl with | [_, _], _ => rfl
  have b_init : Binds K fd_init ["self", "row"] [] := F_init.bindsN fun _ _ _ _ _ _ us hl => match us, hl with | [_, _], _ => rfl
  obtain ⟨ds1, v1, b_is_from⟩ := FunD.binds1 (ps := ["thing", "least", "most"]) F_is_from 2 0 (by simp [He.DefD.dvs, ddF]) rfl fun _ _ _ _ _ _ _ us its h1 h2 => match us, its, h1, h2 with | [_, _], [_], _, _ => ⟨_, rfl, rfl⟩
  obtain ⟨ds2, v2, bM_init⟩ := FunD.binds1 (ps := ["self", "entries"]) N___init__ 2 1 (by simp [He.DefD.dvs, dmI]) rfl fun _ _ _ _ _ _ _ us its h1 h2 => match us, its, h1, h2 with | [_, _], [_], _, _ => ⟨_, rfl, rfl⟩
  have bl := FunD.bindsA (ps := ["_law_script"]) F_law fun _ _ _ _ _ _ us hl => match us, hl with | [_], _ => rfl
  have eL := hfa.symm.trans m_law
  cases eL
  refine ⟨fd_law, fun s v => bl s [v] rfl, fun base _ _ => ?_⟩
  have T_NoText : ExcD P w K mg base "NoText" (cT K) "row" := ⟨_, fd_init, ["self", "row"], TC, of_decide_eq_true x4, of_decide_eq_true x5, ok_init F_init TC (of_decide_eq_true x2) (dinitB_ok m_LeaseError x3), m_NoText, b_init⟩
  have c_is_from0 : True := trivial
  have o_is_whole : FnOk P w K mg base (L2.CX P w) 1 _ fd_is_whole ["thing"] (spD K fIsWhole) := ok_is_whole B F_is_whole
  have c_is_whole : DefOk P w K mg base 1 "is_whole" [] (spD K fIsWhole) := defOk F_is_whole o_is_whole m_is_whole b_is_whole
  have o_is_from : FnOk P w K mg base (L2.CX P w) 2 _ fd_is_from ["thing", "least", "most"] (spD K fIsFrom1) := ok_is_from B F_is_from c_is_whole
  have c_is_from : DefOk P w K mg base 2 "is_from" [.non] (spD K fIsFrom1) := ⟨_, _, _, ds1, o_is_from, m_is_from, F_is_from.kp, b_is_from, v1⟩
  have o_is_number : FnOk P w K mg base (L2.CX P w) 3 _ fd_is_number ["thing"] (spD K fIsNumber1) := ok_is_number F_is_number c_is_from
  have c_is_number : DefOk P w K mg base 3 "is_number" [] (spD K fIsNumber1) := defOk F_is_number o_is_number m_is_number b_is_number
  have o_is_word : FnOk P w K mg base (L2.CX P w) 1 _ fd_is_word ["thing"] (spD K fIsWord) := ok_is_word B F_is_word g_LONGEST g_LETTERS
  have c_is_word : DefOk P w K mg base 1 "is_word" [] (spD K fIsWord) := defOk F_is_word o_is_word m_is_word b_is_word
  have o_is_path : FnOk P w K mg base (L2.CX P w) 2 _ fd_is_path ["thing"] (spD K fIsPath) := ok_is_path B F_is_path g_DEEPEST c_is_word
  have c_is_path : DefOk P w K mg base 2 "is_path" [] (spD K fIsPath) := defOk F_is_path o_is_path m_is_path b_is_path
  have o_is_time : FnOk P w K mg base (L2.CX P w) 2 _ fd_is_time ["thing"] (spD K fIsTime) := ok_is_time B F_is_time c_is_whole
  have c_is_time : DefOk P w K mg base 2 "is_time" [] (spD K fIsTime) := defOk F_is_time o_is_time m_is_time b_is_time
  have o_is_entry : FnOk P w K mg base (L2.CX P w) 3 _ fd_is_entry ["thing"] (spD K fIsEntry) := ok_is_entry B F_is_entry FO g_FORMS (tab_held (heldOk F_is_path o_is_path (by decide) b_is_path) (heldOk F_is_whole o_is_whole (by decide) b_is_whole) (heldOk F_is_time o_is_time (by decide) b_is_time))
  have c_is_entry : DefOk P w K mg base 3 "is_entry" [] (spD K fIsEntry) := defOk F_is_entry o_is_entry m_is_entry b_is_entry
  have o_word_of : FnOk P w K mg base (L2.CX P w) 1 _ fd_word_of ["thing"] (spD K fWordOf) := ok_word_of B F_word_of g_NONE
  have c_word_of : DefOk P w K mg base 1 "word_of" [] (spD K fWordOf) := defOk F_word_of o_word_of m_word_of b_word_of
  have o_shown_entry : FnOk P w K mg base (L2.CX P w) 2 _ fd_shown_entry ["entry"] (spD K fShown) := ok_shown_entry B F_shown_entry c_word_of
  have c_shown_entry : DefOk P w K mg base 2 "shown_entry" [] (spD K fShown) := defOk F_shown_entry o_shown_entry m_shown_entry b_shown_entry
  have o_shown : FnOk P w K mg base (L2.CX P w) 3 _ fd_shown ["entries"] (spD K fShownL) := ok_shown B F_shown c_shown_entry
  have c_shown : DefOk P w K mg base 3 "shown" [] (spD K fShownL) := defOk F_shown o_shown m_shown b_shown
  have o_thing_in : FnOk P w K mg base (L2.CX P w) 1 _ fd_thing_in ["word"] (spD K fThingIn) := ok_thing_in B F_thing_in g_NONE g_FIGURES g_MOST_FIGURES
  have c_thing_in : DefOk P w K mg base 1 "thing_in" [] (spD K fThingIn) := defOk F_thing_in o_thing_in m_thing_in b_thing_in
  have o_entry_in : FnOk P w K mg base (L2.CX P w) 4 _ fd_entry_in ["row"] (spD K fEntryIn) := ok_entry_in B F_entry_in c_thing_in c_is_entry c_shown_entry
  have c_entry_in : DefOk P w K mg base 4 "entry_in" [] (spD K fEntryIn) := defOk F_entry_in o_entry_in m_entry_in b_entry_in
  have o_entries_in : FnOk P w K mg base (L2.CX P w) 5 _ fd_entries_in ["rows"] (spD K (fEntriesIn (cT K))) := ok_entries_in B F_entries_in c_entry_in T_NoText
  have c_entries_in : DefOk P w K mg base 5 "entries_in" [] (spD K (fEntriesIn (cT K))) := defOk F_entries_in o_entries_in m_entries_in b_entries_in
  have o_read_cut : FnOk P w K mg base (L2.CX P w) 6 _ fd_read_cut ["text"] (spD K (fReadCut (cT K))) := ok_read_cut B F_read_cut c_entries_in T_NoText
  have c_read_cut : DefOk P w K mg base 6 "read_cut" [] (spD K (fReadCut (cT K))) := defOk F_read_cut o_read_cut m_read_cut b_read_cut
  have o_read : FnOk P w K mg base (L2.CX P w) 7 _ fd_read ["text"] (spD K (fRead (cT K))) := ok_read B F_read c_read_cut T_NoText
  have c_read : DefOk P w K mg base 7 "read" [] (spD K (fRead (cT K))) := defOk F_read o_read m_read b_read
  have o__law_room : FnOk P w K mg base (L2.CX P w) 1 _ fd__law_room ["_law_script", "_law_k"] (spRoom K) := ok_law_room B F__law_room
  have c__law_room : DefOk P w K mg base 1 "_law_room" [] (spRoom K) := defOk F__law_room o__law_room m__law_room b__law_room
  have o__law_take : FnOk P w K mg base (L2.CX P w) 1 _ fd__law_take ["_law_room_here", "_law_many"] (spD K fTake) := ok_law_take B F__law_take
  have c__law_take : DefOk P w K mg base 1 "_law_take" [] (spD K fTake) := defOk F__law_take o__law_take m__law_take b__law_take
  have o__law_word_of : FnOk P w K mg base (L2.CX P w) 1 _ fd__law_word_of ["_law_thing"] (spD K fWordOf) := ok_law_word_of B F__law_word_of
  have c__law_word_of : DefOk P w K mg base 1 "_law_word_of" [] (spD K fWordOf) := defOk F__law_word_of o__law_word_of m__law_word_of b__law_word_of
  have o__law_line_of : FnOk P w K mg base (L2.CX P w) 2 _ fd__law_line_of ["_law_entry_here"] (spD K fShown) := ok_law_line_of B F__law_line_of c__law_word_of
  have c__law_line_of : DefOk P w K mg base 2 "_law_line_of" [] (spD K fShown) := defOk F__law_line_of o__law_line_of m__law_line_of b__law_line_of
  have o__law_path : FnOk P w K mg base (L2.CX P w) 2 _ fd__law_path ["_law_room_here"] (spD K fPath) := ok_law_path B F__law_path c__law_take
  have c__law_path : DefOk P w K mg base 2 "_law_path" [] (spD K fPath) := defOk F__law_path o__law_path m__law_path b__law_path
  have o__law_entry : FnOk P w K mg base (L2.CX P w) 3 _ fd__law_entry ["_law_room_here"] (spD K fEntry) := ok_law_entry B F__law_entry c__law_take c__law_path
  have c__law_entry : DefOk P w K mg base 3 "_law_entry" [] (spD K fEntry) := defOk F__law_entry o__law_entry m__law_entry b__law_entry
  have o_shownT : FnOk P w K mg base (L2.CX P w) 3 _ fd_shown ["entries"] (spD K fShownT) := ok_shownT B F_shown c_shown_entry
  have c_shownT : DefOk P w K mg base 3 "shown" [] (spD K fShownT) := defOk F_shown o_shownT m_shown b_shown
  have o_entries_inO : FnOk P w K mg base (L2.CX P w) 5 _ fd_entries_in ["rows"] (spD K fEntriesInO) := ok_entries_inO B F_entries_in c_entry_in T_NoText
  have c_entries_inO : DefOk P w K mg base 5 "entries_in" [] (spD K fEntriesInO) := defOk F_entries_in o_entries_inO m_entries_in b_entries_in
  have o_read_cutO : FnOk P w K mg base (L2.CX P w) 6 _ fd_read_cut ["text"] (spD K fReadCutO) := ok_read_cutO B F_read_cut c_entries_inO T_NoText
  have c_read_cutO : DefOk P w K mg base 6 "read_cut" [] (spD K fReadCutO) := defOk F_read_cut o_read_cutO m_read_cut b_read_cut
  have o_readO : FnOk P w K mg base (L2.CX P w) 7 _ fd_read ["text"] (spD K fReadO) := ok_readO B F_read c_read_cutO T_NoText
  have c_readO : DefOk P w K mg base 7 "read" [] (spD K fReadO) := defOk F_read o_readO m_read b_read
  have k_shown : DefK1 P w K mg base 3 "shown" "entries" (spD K fShownL) := kwOk F_shown o_shown m_shown fun _ _ _ _ _ _ _ => rfl
  have k_read : DefK1 P w K mg base 7 "read" "text" (spD K (fRead (cT K))) := kwOk F_read o_read m_read fun _ _ _ _ _ _ _ => rfl
  have oM_look_on_way : FnOk P w K mg base (L2.CX P w) 1 _ fdM_look_on_way ["self", "path"] (spD K (fOnWay (cB K))) := ok_look_on_way B N_look_on_way
  have m_look_on_way : MethOk P w K mg base 1 (cB K) "look_on_way" [] (spD K (fOnWay (cB K))) := methOk N_look_on_way CB M_look_on_way oM_look_on_way bM_look_on_way
  have oM_is_file : FnOk P w K mg base (L2.CX P w) 1 _ fdM_is_file ["self", "path"] (spD K (fIsFile (cB K))) := ok_is_file BK N_is_file
  have m_is_file : MethOk P w K mg base 1 (cB K) "is_file" [] (spD K (fIsFile (cB K))) := methOk N_is_file CB M_is_file oM_is_file bM_is_file
  have oM_look_at_there : FnOk P w K mg base (L2.CX P w) 2 _ fdM_look_at_there ["self", "path"] (spD K (fThere (cB K))) := ok_look_at_there BK N_look_at_there m_look_on_way
  have m_look_at_there : MethOk P w K mg base 2 (cB K) "look_at_there" [] (spD K (fThere (cB K))) := methOk N_look_at_there CB M_look_at_there oM_look_at_there bM_look_at_there
  have oM_look_at_new : FnOk P w K mg base (L2.CX P w) 2 _ fdM_look_at_new ["self", "path"] (spD K (fNew (cB K))) := ok_look_at_new BK N_look_at_new m_look_on_way
  have m_look_at_new : MethOk P w K mg base 2 (cB K) "look_at_new" [] (spD K (fNew (cB K))) := methOk N_look_at_new CB M_look_at_new oM_look_at_new bM_look_at_new
  have oM_look_at_file : FnOk P w K mg base (L2.CX P w) 3 _ fdM_look_at_file ["self", "path"] (spD K (fThere (cB K))) := ok_look_at_file N_look_at_file m_look_at_there m_is_file
  have m_look_at_file : MethOk P w K mg base 3 (cB K) "look_at_file" [] (spD K (fThere (cB K))) := methOk N_look_at_file CB M_look_at_file oM_look_at_file bM_look_at_file
  have oM_look_at_path : FnOk P w K mg base (L2.CX P w) 4 _ fdM_look_at_path ["self", "word", "path"] (spD K (fPathC (cB K))) := ok_look_at_path N_look_at_path g_NEW TN m_look_at_new m_look_at_file
  have m_look_at_path : MethOk P w K mg base 4 (cB K) "look_at_path" [] (spD K (fPathC (cB K))) := methOk N_look_at_path CB M_look_at_path oM_look_at_path bM_look_at_path
  have oM_is_fresh : FnOk P w K mg base (L2.CX P w) 4 _ fdM_is_fresh ["self", "thing"] (spD K (fFresh (cB K))) := ok_is_fresh BK N_is_fresh c_is_number
  have m_is_fresh : MethOk P w K mg base 4 (cB K) "is_fresh" [] (spD K (fFresh (cB K))) := methOk N_is_fresh CB M_is_fresh oM_is_fresh bM_is_fresh
  have oM_look_at_piece : FnOk P w K mg base (L2.CX P w) 4 _ fdM_look_at_piece ["self", "thing"] (spD K (fPieceC (cB K))) := ok_look_at_piece BK N_look_at_piece c_is_number
  have m_look_at_piece : MethOk P w K mg base 4 (cB K) "look_at_piece" [] (spD K (fPieceC (cB K))) := methOk N_look_at_piece CB M_look_at_piece oM_look_at_piece bM_look_at_piece
  have oM_look_at_numbers : FnOk P w K mg base (L2.CX P w) 5 _ fdM_look_at_numbers ["self", "word", "path", "rest"] (spD K (fNumbers (cB K))) := ok_look_at_numbers N_look_at_numbers m_is_fresh
  have m_look_at_numbers : MethOk P w K mg base 5 (cB K) "look_at_numbers" [] (spD K (fNumbers (cB K))) := methOk N_look_at_numbers CB M_look_at_numbers oM_look_at_numbers bM_look_at_numbers
  have oM_look_at_editions : FnOk P w K mg base (L2.CX P w) 5 _ fdM_look_at_editions ["self", "word", "number", "edition"] (spD K (fEditions (cB K))) := ok_look_at_editions BK N_look_at_editions c_is_whole m_look_at_piece
  have m_look_at_editions : MethOk P w K mg base 5 (cB K) "look_at_editions" [] (spD K (fEditions (cB K))) := methOk N_look_at_editions CB M_look_at_editions oM_look_at_editions bM_look_at_editions
  have oM_look_at : FnOk P w K mg base (L2.CX P w) 6 _ fdM_look_at ["self", "entry"] (spD K (fLookAt (cB K))) := ok_look_at N_look_at B c_is_entry m_look_at_editions m_look_at_path m_look_at_numbers
  have m_look_at : MethOk P w K mg base 6 (cB K) "look_at" [] (spD K (fLookAt (cB K))) := methOk N_look_at CB M_look_at oM_look_at bM_look_at
  have oM_note_piece : FnOk P w K mg base (L2.CX P w) 1 _ fdM_note_piece ["self", "word", "rest"] (spD K (fNotePiece (cB K))) := ok_note_piece BK N_note_piece
  have m_note_piece : MethOk P w K mg base 1 (cB K) "note_piece" [] (spD K (fNotePiece (cB K))) := methOk N_note_piece CB M_note_piece oM_note_piece bM_note_piece
  have oM_all_lists : FnOk P w K mg base (L2.CX P w) 1 _ fdM_all_lists ["self"] (spAll K (cB K)) := ok_all_lists N_all_lists
  have m_all_lists : MethOk P w K mg base 1 (cB K) "all_lists" [] (spAll K (cB K)) := methOk N_all_lists CB M_all_lists oM_all_lists bM_all_lists
  have oM_forget : FnOk P w K mg base (L2.CX P w) 2 _ fdM_forget ["self"] (spForget K (cB K)) := ok_forget N_forget m_all_lists
  have m_forget : MethOk P w K mg base 2 (cB K) "forget" [] (spForget K (cB K)) := methOk N_forget CB M_forget oM_forget bM_forget
  have oM_note : FnOk P w K mg base (L2.CX P w) 7 _ fdM_note ["self", "entry"] (spD K (fNote (cB K))) := ok_note BK N_note m_look_at m_note_piece m_forget
  have m_note : MethOk P w K mg base 7 (cB K) "note" [] (spD K (fNote (cB K))) := methOk N_note CB M_note oM_note bM_note
  have oM_note_one : FnOk P w K mg base (L2.CX P w) 8 _ fdM_note_one ["self", "number", "entry"] (spD K (fNoteOne (cB K))) := ok_note_one N_note_one m_note
  have m_note_one : MethOk P w K mg base 8 (cB K) "note_one" [] (spD K (fNoteOne (cB K))) := methOk N_note_one CB M_note_one oM_note_one bM_note_one
  have oM_entries : FnOk P w K mg base (L2.CX P w) 1 _ fdM_entries ["self"] (spD K (fEntries (cB K))) := ok_entries BK B N_entries
  have m_entries : MethOk P w K mg base 1 (cB K) "entries" [] (spD K (fEntries (cB K))) := methOk N_entries CB M_entries oM_entries bM_entries
  have oM_init : FnOk P w K mg base (L2.CX P w) 9 _ fdM___init__ ["self", "entries"] (spD K (fInit (cB K))) := ok_init_book BK B N___init__ m_note_one
  have k_Book : MakeOk P w K mg base 9 "Book" (cB K) [] (spD K (fInit (cB K))) := ⟨_, _, _, ds2, MB, oM_init, m_Book, bM_init, v2⟩
  have o_eq : FnOk P w K mg base (L2.CX P w) 1 _ fdM___eq__ ["self", "other"] (spEq (RBk K (cB K))) := ok_eq_book B N___eq__ g_Book
  exact ok_law ⟨rfl, by decide, by decide⟩ B F_law c__law_room c__law_take c__law_line_of c__law_entry c_shown c_shownT k_shown c_readO c_read k_read c_read_cut k_Book m_entries IK BK o_eq M___eq__.at_ M___eq__.fn bM___eq__
end K67

set_option Elab.async false
set_option linter.all false
set_option maxRecDepth 100000
set_option maxHeartbeats 0
namespace K67
open PySem PySem.Spec PyProof.Rows L2 AL
abbrev R : PySem.W.OpenRow := PySem.W.OpenLaw.row PySem.Challenge.rw_appendlease_k67_logs_written
abbrev qv : Program := PySem.W.view R.prog [51]
def nm1 : List PySem.Str := [("_wall" : PySem.Str), ("LeaseError" : PySem.Str), ("NoEntry" : PySem.Str), ("NoText" : PySem.Str), ("NoPath" : PySem.Str), ("NoKept" : PySem.Str), ("NoPiece" : PySem.Str), ("NoPart" : PySem.Str), ("There" : PySem.Str), ("NotFolder" : PySem.Str), ("NotFile" : PySem.Str), ("Root" : PySem.Str), ("NotEmpty" : PySem.Str), ("Within" : PySem.Str), ("TooDeep" : PySem.Str), ("LETTERS" : PySem.Str), ("LONGEST" : PySem.Str), ("DEEPEST" : PySem.Str), ("is_whole" : PySem.Str), ("is_from" : PySem.Str), ("is_number" : PySem.Str), ("is_word" : PySem.Str), ("is_path" : PySem.Str), ("is_time" : PySem.Str), ("FORMS" : PySem.Str), ("NEW" : PySem.Str), ("is_entry" : PySem.Str), ("is_beneath" : PySem.Str), ("Book" : PySem.Str), ("NONE" : PySem.Str), ("FIGURES" : PySem.Str), ("MOST_FIGURES" : PySem.Str), ("word_of" : PySem.Str), ("shown_entry" : PySem.Str), ("shown" : PySem.Str), ("thing_in" : PySem.Str), ("entry_in" : PySem.Str), ("entries_in" : PySem.Str), ("read_cut" : PySem.Str), ("read" : PySem.Str), ("_law_room" : PySem.Str), ("_law_take" : PySem.Str), ("_law_word_of" : PySem.Str), ("_law_line_of" : PySem.Str), ("_law_path" : PySem.Str), ("_law_entry" : PySem.Str)]
abbrev hk : PySem.W.Hook := hookZ 4 fa fn ts exB
def ob (s : PySem.W.SharedT) : AlZ := obsZ 4 fa fn ts exB (HandSHeadRun.getT s)
theorem ob_eq (s : PySem.W.SharedT) : ob s = hk.obs s.abs := obsZ_eq (HandSHeadRun.getT_eq s)
theorem run_f (w : World) : HandSHeadRun.RunEq R qv hk ob 6000 nm1 (w.withFollow "special-get-raises" false) := by intro os; kernel_rfl
theorem run_t (w : World) : HandSHeadRun.RunEq R qv hk ob 6000 nm1 (w.withFollow "special-get-raises" true) := by intro os; kernel_rfl
theorem run (w : World) : HandSHeadRun.RunEq R qv hk ob 6000 nm1 w :=
  PySem.W.byRow2 "special-get-raises" (P := fun w => HandSHeadRun.RunEq R qv hk ob 6000 nm1 w) run_f run_t w
end K67

set_option Elab.async false
set_option linter.all false
set_option maxRecDepth 100000
set_option maxHeartbeats 0
open PySem PySem.W PySem.Calls PyProof.Rows
theorem PySem.Challenge.cw_appendlease_k67_logs_written_holds : PySem.Challenge.rw_appendlease_k67_logs_written.Holds := by
  w_on; o_law
  refine HandSHeadRun.head_any (r := OpenLaw.row PySem.Challenge.rw_appendlease_k67_logs_written) (q := view (OpenLaw.row PySem.Challenge.rw_appendlease_k67_logs_written).prog [51]) (H := K67.hk) (ob := K67.ob) (M := 6000) (loose := K67.nm1) (d := HandSHeadRun.topDef (OpenLaw.row PySem.Challenge.rw_appendlease_k67_logs_written).prog 51) (kwd := []) K67.ob_eq
    (by kernel_rfl) (fun s => by kernel_rfl) K67.run (by kernel_rfl) (by kernel_rfl) (by kernel_rfl) (by rfl) (by first | assumption | decide +kernel) (by decide +kernel) ⟨rfl, rfl, rfl, rfl, rfl, by decide +kernel⟩ ?hw ?hc
  case hw => w_witness2
  case hc =>
    refine AL.walk_ofG (l := PySem.Challenge.rw_appendlease_k67_logs_written) (n := 63) (x := "_law_script") (CX := fun w => L2.CX (PySem.Challenge.rw_appendlease_k67_logs_written).prog w) rfl (by decide) (by kernel_rfl) ?F (fun w H s e s' z => by
      obtain ⟨_, _, _, _, _, _, _, _, _, _, _, _, z⟩ := z
      exact z.elim)
    intro w mg fa h Y G hmg0
    obtain ⟨K, KX, c⟩ := Y
    have hmg : mg ("law" : PySem.Str) = some (.ref fa) := by
      have e : (HandSHeadRun.topDef (OpenLaw.row PySem.Challenge.rw_appendlease_k67_logs_written).prog 51).name = ("law" : PySem.Str) := by kernel_rfl
      rw [← e]
      exact hmg0
    obtain ⟨fd, hb, hF⟩ := K67.facts (P := (PySem.Challenge.rw_appendlease_k67_logs_written).prog) (w := w) KX G hmg c
    exact ⟨K, fd, K67.spLaw K 63, KX, hb, fun H a ns hl hO hS => ⟨a, ns, rfl, hl, hO, hS, fun _ => rfl⟩, hF⟩
