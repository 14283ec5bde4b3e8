import PyProof.Rows.All
import Wide.All
import OpenK.AllK
import Wide.FinOn
import HandS.ForMost
import HandS.ForExc
import HandS.Defaults
import HandS.IsInst
import HandS.Flow
import HandS.Codes
import HandS.TryMany
import HandS.ExcInit
import HandS.Wide
import HandS.Walk
import HandS.Zip
import HandS.TupAny
import HandS.StrMore
import HandS.More
import HandS.WrittenGet
import HandS.ExcIs
import HandS.ExcField
import HandS.ExcValue
import HandS.Steps
import KE.KUnpackStar
import KE.GoesMore
import KE.GoesZip
import PyProof.StrOps2
import PyProof.ReprRoads
import PyProof.StrBlock2
import PyProof.Rows.StrMul
import HandS.RaiseMore
import HandS.CallLocal
import HandS.Ends
import HandS.HeadEnd
import KE.IntTextLaws
import PySem.Challenge.RW_appendlease_k68_texts_of_no_log
import HandS.HeadHook1
import HandS.HeadHook2
import HandS.HeadHook3
import HandS.Head0
import HandS.Head1
import HandS.Head2
set_option Elab.async false
set_option linter.all false
set_option maxRecDepth 100000
set_option maxHeartbeats 4000000
/-! AL1: calls in a context that takes W (one rule for a def's body, a try's body, a comprehension). -/
namespace AL
open PySem PySem.Spec PyProof.Rows L2

/-- a wish with the slots, as a callee's wish -/
abbrev wE (W : WX) (σ : L2.St) : XK := fun cls d H => W cls d σ H
/-- a def of the module that may be called by its name -/
structure DefOk (P : Program) (w : World) (K : PySem.W.Frag) (mg : Str → Option Value) (base : Heap) (k : Nat) (x : Str) (dvs : List V) (sp : Sp) : Prop where
  ex : ∃ (f : Addr) (fd : FuncData) (ps : List Str) (ds : List Value), FnOk P w K mg base (L2.CX P w) k f fd ps sp ∧ mg x = some (.ref f) ∧ PySem.W.keepIn K (.ref f) = true ∧ Binds K fd ps ds ∧ Vals dvs ds
/-- a method of the class at C -/
structure MethOk (P : Program) (w : World) (K : PySem.W.Frag) (mg : Str → Option Value) (base : Heap) (k : Nat) (C : Addr) (m : Str) (dvs : List V) (sp : Sp) : Prop where
  ex : ∃ (f : Addr) (fd : FuncData) (ps : List Str) (ds : List Value), Cls K C ∧ Meth K C m f ∧ FnOk P w K mg base (L2.CX P w) k f fd ps sp ∧ Binds K fd ps ds ∧ Vals dvs ds
/-- a class that may be made by its name; sp: its __init__ -/
structure MakeOk (P : Program) (w : World) (K : PySem.W.Frag) (mg : Str → Option Value) (base : Heap) (k : Nat) (x : Str) (C : Addr) (dvs : List V) (sp : Sp) : Prop where
  ex : ∃ (f : Addr) (fd : FuncData) (ps : List Str) (ds : List Value), Mk K C f ∧ FnOk P w K mg base (L2.CX P w) k f fd ps sp ∧ mg x = some (.ref C) ∧ Binds K fd ps ds ∧ Vals dvs ds
def tCalW (sp : Sp) (dvs : List V) (W : WX) (t : TA) : TE := fun σ H Q => t σ H fun vs H1 => sp (vs ++ dvs) H1 Q (wE W σ)
def tMetW (C : Addr) (m : Str) (sp : Sp) (dvs : List V) (W : WX) (ta : TE) (t : TA) : TE := fun σ H Q => ta σ H fun x H1 => ∃ a dx fs, x = .ref a ∧ H1 a = some (.ins C dx fs) ∧ fs.lookup m = none ∧
  t σ H1 fun vs H2 => sp (x :: (vs ++ dvs)) H2 Q (wE W σ)
def tMakW (C : Addr) (sp : Sp) (dvs : List V) (W : WX) (t : TA) : TE := fun σ H Q => t σ H fun vs H1 => ∀ x dx, H1 x = none → H1 dx = none → dx ≠ x →
  sp (.ref x :: (vs ++ dvs)) (upd (upd H1 dx (.own x)) x (.ins C dx [])) (fun v H2 => v = .non ∧ Q (.ref x) H2) (wE W σ)
section
variable {X : Cx} {k j : Nat} {f C : Addr} {fd : FuncData} {ps : List Str} {sp : Sp} {dvs : List V} {ds : List Value} {W : WX} {x m : Str} {p pos apos : Pos} {e o : Expr} {es : List Expr} {ta : TE} {t : TA}
theorem run_w {pins : List (Addr × Obj)} {σ : L2.St} {H : Hp} {s : Shared} {Q : VK} {us : List Value} {vs : List V} (F : FnOk X.prog X.w X.K X.mg X.base (L2.CX X.prog X.w) k f fd ps sp) (hr : Room k X.A) (hb : Binds X.K fd ps ds) (hd : Vals dvs ds) (tk : Takes X W)
    (I : Inv X pins σ H s) (r : Vals vs us) (h : sp (vs ++ dvs) H Q (wE W σ)) : wpAny (model X.prog X.w) X.A (call (.ref f) us) (EP X pins σ Q) X.xe s := by
  have r2 : Vals (vs ++ dvs) (us ++ ds) := r.append hd
  have hl : (us ++ ds).length = ps.length := by rw [← r2.length]; exact F.len _ _ _ _ h
  refine wpAny_call (codeAny_mono (F.run X.A X.stack s H ⟨us, []⟩ (us ++ ds) (vs ++ dvs) Q (wE W σ) hr I.env0 (hb s us I.kIn hl) r2 h) fun r s' hq => ?_)
  cases r with
  | error e => exact passAt tk σ pins H s e s' I hq
  | ok fl =>
    cases fl with
    | ret u => exact I.after hq
    | next => exact False.elim hq
    | brk => exact False.elim hq
    | cont => exact False.elim hq
theorem pe_f (c : DefOk X.prog X.w X.K X.mg X.base k x dvs sp) (hr : Room j X.A) (tk : Takes X W) (ha : PA X (e :: es) t) (hk : k ≤ j := by decide) (hg : Gl X x := by rfl)
    (hdb : (x == ("__debug__" : Str)) = false := by decide) (he : starEach (e :: es) X.env = (false, eval e X.env) :: starEach es X.env := by rfl) (hpl : (backTo pos (starEach es X.env)).any (·.1) = false := by rfl) :
    PE X (.Call (.Name x p) (e :: es) [] pos) (tCalW sp dvs W t) := by
  obtain ⟨f, fd, ps, ds, F, hm, hkp, hb, hd⟩ := c.ex
  refine ⟨fun pins s σ H Q I h => ?_⟩
  refine wpAny_Call_Name_kw (ld_glob I hg hm ?_ hdb)
  refine PySem.W.callWith_K (h₀ := X.base) I.ok.mod.kin hkp (thn (ha.run pos pins s σ H _ I h) fun us s1 ⟨vs, H1, I1, r, q⟩ => ⟨I1.kIn, ?_⟩) he hpl
  exact run_w F (hr.mono hk) hb hd tk I1 r q
theorem pe_f0 (c : DefOk X.prog X.w X.K X.mg X.base k x dvs sp) (hr : Room j X.A) (tk : Takes X W) (hk : k ≤ j := by decide) (hg : Gl X x := by rfl)
    (hdb : (x == ("__debug__" : Str)) = false := by decide) : PE X (.Call (.Name x p) [] [] pos) (tCalW sp dvs W tNil) := by
  obtain ⟨f, fd, ps, ds, F, hm, hkp, hb, hd⟩ := c.ex
  refine ⟨fun pins s σ H Q I h => ?_⟩
  refine wpAny_Call_Name_kw (ld_glob I hg hm ?_ hdb)
  exact PySem.W.callWith_K0 I.kIn hkp (run_w (us := []) F (hr.mono hk) hb hd tk I .nil h)
/-- o.m(e, ..) -/
theorem pe_m {pl : Sem Bool} (c : MethOk X.prog X.w X.K X.mg X.base k C m dvs sp) (hr : Room j X.A) (tk : Takes X W) (he : PE X o ta) (ha : PA X (e :: es) t) (hk : k ≤ j := by decide)
    (hst : starEach (e :: es) X.env = (false, eval e X.env) :: starEach es X.env := by rfl) (hpl : (backTo pos (starEach es X.env)).any (·.1) = false := by rfl)
    (ht : eval (.Call (.Attribute o m apos) (e :: es) [] pos) X.env = (do
      let ov ← eval o X.env
      standAt apos.atName
      let (f, first) ← holding [ov] (getMethod ov m pl)
      callWith pos f first (backTo pos (starEach (e :: es) X.env)) (backToKw pos (keywordEach [] X.env))) := by rfl) :
    PE X (.Call (.Attribute o m apos) (e :: es) [] pos) (tMetW C m sp dvs W ta t) := by
  obtain ⟨f, fd, ps, ds, c, hm, F, hb, hd⟩ := c.ex
  refine ⟨fun pins s σ H Q I h => ?_⟩
  refine PySem.W.methodCall_KW (pl := pl) (thn (he.run pins s σ H _ I h) fun u s1 ⟨x, H1, I1, rx, a, dx, fs, ex, ea, l, q⟩ => ?_) ht
  subst ex
  obtain rfl : u = Value.ref a := rx
  refine getmeth_ok I1 ea c hm l ?_
  refine PySem.W.callWith_K (first := [.ref a]) (h₀ := X.base) I.ok.mod.kin hm.kp (thn (ha.run pos pins s1 σ H1 _ I1 q) fun us s2 ⟨vs, H2, I2, r, q2⟩ => ⟨I2.kIn, ?_⟩) hst hpl
  exact run_w (us := .ref a :: us) (vs := .ref a :: vs) F (hr.mono hk) hb hd tk I2 (.cons rfl r) q2
/-- o.m() -/
theorem pe_m0 {pl : Sem Bool} (c : MethOk X.prog X.w X.K X.mg X.base k C m dvs sp) (hr : Room j X.A) (tk : Takes X W) (he : PE X o ta) (hk : k ≤ j := by decide)
    (ht : eval (.Call (.Attribute o m apos) [] [] pos) X.env = (do
      let ov ← eval o X.env
      standAt apos.atName
      let (f, first) ← holding [ov] (getMethod ov m pl)
      callWith pos f first (backTo pos (starEach [] X.env)) (backToKw pos (keywordEach [] X.env))) := by rfl) :
    PE X (.Call (.Attribute o m apos) [] [] pos) (tMetW C m sp dvs W ta tNil) := by
  obtain ⟨f, fd, ps, ds, c, hm, F, hb, hd⟩ := c.ex
  refine ⟨fun pins s σ H Q I h => ?_⟩
  refine PySem.W.methodCall_KW (pl := pl) (thn (he.run pins s σ H _ I h) fun u s1 ⟨x, H1, I1, rx, a, dx, fs, ex, ea, l, q⟩ => ?_) ht
  subst ex
  obtain rfl : u = Value.ref a := rx
  refine getmeth_ok I1 ea c hm l ?_
  exact PySem.W.callWith_K0 (first := [.ref a]) I1.kIn hm.kp (run_w (us := [.ref a]) (vs := [.ref a]) F (hr.mono hk) hb hd tk I1 (.cons rfl .nil) q)
theorem run_mk {pins : List (Addr × Obj)} {σ : L2.St} {H : Hp} {s : Shared} {Q : VK} {us : List Value} {vs : List V} (M : Mk X.K C f) (F : FnOk X.prog X.w X.K X.mg X.base (L2.CX X.prog X.w) k f fd ps sp) (hr : Room (k + 1) X.A) (hb : Binds X.K fd ps ds) (hd : Vals dvs ds)
    (tk : Takes X W) (I : Inv X pins σ H s) (r : Vals vs us)
    (h : ∀ x dx, H x = none → H dx = none → dx ≠ x → sp (.ref x :: (vs ++ dvs)) (upd (upd H dx (.own x)) x (.ins C dx [])) (fun v H2 => v = .non ∧ Q (.ref x) H2) (wE W σ)) :
    wpAny (model X.prog X.w) X.A (call (.ref C) us) (EP X pins σ Q) X.xe s := by
  have hq := h (s.heap.objs.size + 1) s.heap.objs.size (I.hok.fresh (Nat.le_succ _)) (I.hok.fresh (Nat.le_refl _)) (Nat.ne_of_lt (Nat.lt_succ_self _))
  have I2 := Inv.made (C := C) I
  have r2 : Vals (V.ref (s.heap.objs.size + 1) :: (vs ++ dvs)) (Value.ref (s.heap.objs.size + 1) :: (us ++ ds)) := .cons rfl (r.append hd)
  have hl : (Value.ref (s.heap.objs.size + 1) :: us ++ ds).length = ps.length := by
    have e := r2.length
    rw [F.len _ _ _ _ hq] at e
    exact e.symm
  refine wpAny_call (make_map (f := f) I.kIn M.makes M.init (beq_iff_eq.mp M.fn) (codeAny_mono (F.run _ X.stack _ _ ⟨Value.ref (s.heap.objs.size + 1) :: us, []⟩ (Value.ref (s.heap.objs.size + 1) :: (us ++ ds)) _ _ (wE W σ) (hr.make C us [])
    (I2.env0.make C us []) (hb _ (Value.ref (s.heap.objs.size + 1) :: us) I2.kIn hl) r2 hq) fun r s' hq' => ?_))
  cases r with
  | error e => exact passAt tk σ pins _ _ e s' I2 hq'
  | ok fl =>
    cases fl with
    | ret u =>
      obtain ⟨v, H', I3, rv, ev, q3⟩ := I2.after hq'
      subst ev
      exact ⟨rv, ⟨V.ref (s.heap.objs.size + 1), H', I3, rfl, q3⟩⟩
    | next => exact False.elim hq'
    | brk => exact False.elim hq'
    | cont => exact False.elim hq'
theorem pe_k (c : MakeOk X.prog X.w X.K X.mg X.base k x C dvs sp) (hr : Room j X.A) (tk : Takes X W) (ha : PA X (e :: es) t) (hk : k + 1 ≤ j := by decide) (hg : Gl X x := by rfl)
    (hdb : (x == ("__debug__" : Str)) = false := by decide) (he : starEach (e :: es) X.env = (false, eval e X.env) :: starEach es X.env := by rfl) (hpl : (backTo pos (starEach es X.env)).any (·.1) = false := by rfl) :
    PE X (.Call (.Name x p) (e :: es) [] pos) (tMakW C sp dvs W t) := by
  obtain ⟨f, fd, ps, ds, M, F, hm, hb, hd⟩ := c.ex
  refine ⟨fun pins s σ H Q I h => ?_⟩
  refine wpAny_Call_Name_kw (ld_glob I hg hm ?_ hdb)
  refine PySem.W.callWith_K (h₀ := X.base) I.ok.mod.kin M.kp (thn (ha.run pos pins s σ H _ I h) fun us s1 ⟨vs, H1, I1, r, q⟩ => ⟨I1.kIn, ?_⟩) he hpl
  exact run_mk M F (hr.mono hk) hb hd tk I1 r q
theorem pe_k0 (c : MakeOk X.prog X.w X.K X.mg X.base k x C dvs sp) (hr : Room j X.A) (tk : Takes X W) (hk : k + 1 ≤ j := by decide) (hg : Gl X x := by rfl)
    (hdb : (x == ("__debug__" : Str)) = false := by decide) : PE X (.Call (.Name x p) [] [] pos) (tMakW C sp dvs W tNil) := by
  obtain ⟨f, fd, ps, ds, M, F, hm, hb, hd⟩ := c.ex
  refine ⟨fun pins s σ H Q I h => ?_⟩
  refine wpAny_Call_Name_kw (ld_glob I hg hm ?_ hdb)
  exact PySem.W.callWith_K0 I.kIn M.kp (run_mk (us := []) M F (hr.mono hk) hb hd tk I .nil h)
end
/-! ### defs by their bodies -/
section
variable {P : Program} {w : World} {K : PySem.W.Frag} {mg : Str → Option Value} {base : Heap} {x qual : Str} {params : Arguments} {body : List Stmt} {scope : Scope} {dvs : List V} {kws : List (Str × V)} {f C : Addr} {fd : FuncData}
/-- the context of a def's body takes what its promise says of errors -/
theorem takesD {N : List Str} {cd : Value} {A : Around} {outer : List Env} {s : Shared} {H : Hp} {E : XK} : Takes (cxOf (L2.CX P w) P w K mg base N qual scope f cd A outer s H E) (fun cls d _ H => E cls d H) := takes_of rfl rfl rfl rfl
/-- the context of a def's body, as the proofs bear it -/
abbrev bodyCx (P : Program) (w : World) (K : PySem.W.Frag) (mg : Str → Option Value) (base : Heap) (N : List Str) (qual : Str) (scope : Scope) (f : Addr) (cd : Value) (A : Around) (outer : List Env) (s : Shared) (H : Hp) (E : XK) : Cx :=
  cxOf (L2.CX P w) P w K mg base N qual scope f cd A outer s H E
end
end AL

set_option Elab.async false
set_option linter.all false
set_option maxRecDepth 100000
set_option maxHeartbeats 4000000
/-! AL2: short rules. -/
namespace AL
open PySem PySem.Spec PyProof.Rows L2
/-- the built-in names that the module leaves alone -/
structure BT (mg : Str → Option Value) : Prop where
  isinstance : mg "isinstance" = none
  all : mg "all" = none
  any : mg "any" = none
  len : mg "len" = none
  str : mg "str" = none
  int : mg "int" = none
  bool : mg "bool" = none
  tuple : mg "tuple" = none
  list : mg "list" = none
  dict : mg "dict" = none
  set : mg "set" = none
  range : mg "range" = none
  zip : mg "zip" = none
  enumerate : mg "enumerate" = none
  sum : mg "sum" = none
  max : mg "max" = none
  min : mg "min" = none
  sorted : mg "sorted" = none
  repr : mg "repr" = none
  ord : mg "ord" = none
section
variable {X : Cx} {e e2 : Expr} {es : List Expr} {te te2 : TE} {ta : TA} {p p2 pos : Pos}
theorem pe_len (T : BT X.mg) (ha : PE X e te) (hg : Gl X "len" := by rfl) (hs : starEach [e] X.env = (false, eval e X.env) :: starEach [] X.env := by rfl) : PE X (.Call (.Name "len" p) [e] [] pos) (tCB (fun xs H Q => ∃ x n, xs = [x] ∧ LenV X.K x H n ∧ Q (.int n) H) (tCons te tNil)) :=
  pe_callB call_len hg T.len PySem.boot_len (pa_cons ha pa_nil hs) (by decide) (by decide) hs
/-- isinstance(e, c) for a class as a value -/
def rIs (K : PySem.W.Frag) : List V → Hp → VK → Prop := fun xs H Q => ∃ x t T b, xs = [x, .ty T] ∧ TyX K H x (.type t) ∧ kitB t T = some b ∧ Q (.bl b) H
theorem call_is : CallR X (.builtin "isinstance") (rIs X.K) := by
  intro pins s σ H xs us Q I r h
  obtain ⟨x, t, T, b, e1, e2, e3, q⟩ := h
  exact call_isi pins s σ H xs us Q I r ⟨x, .ty T, .type t, .type T, b, e1, ClsV.ty T, e2, kit_ty e3, q⟩
theorem pe_is (B : BT X.mg) (ha : PE X e te) (ha2 : PE X e2 te2) (hg : Gl X "isinstance" := by rfl)
    (hs1 : starEach [e, e2] X.env = (false, eval e X.env) :: starEach [e2] X.env := by rfl) (hs2 : starEach [e2] X.env = (false, eval e2 X.env) :: starEach [] X.env := by rfl) (hpl : (backTo pos (starEach [e2] X.env)).any (·.1) = false := by rfl) :
    PE X (.Call (.Name "isinstance" p) [e, e2] [] pos) (tCB (rIs X.K) (tCons te (tCons te2 tNil))) :=
  pe_callB call_is hg B.isinstance PyProof.Rows.boot_isinstance (pa_cons ha (pa_cons ha2 pa_nil hs2) hs1) (by decide) (by decide) hs1 hpl
theorem ty_str (B : BT X.mg) (hg : Gl X "str" := by rfl) : PE X (.Name "str" p) (tC (.ty "str")) := pe_bltn (v := .ty "str") hg B.str PyProof.Rows.boot_str rfl
theorem ty_int (B : BT X.mg) (hg : Gl X "int" := by rfl) : PE X (.Name "int" p) (tC (.ty "int")) := pe_bltn (v := .ty "int") hg B.int PyProof.Rows.boot_int rfl
theorem ty_bool (B : BT X.mg) (hg : Gl X "bool" := by rfl) : PE X (.Name "bool" p) (tC (.ty "bool")) := pe_bltn (v := .ty "bool") hg B.bool PyProof.Rows.boot_bool rfl
theorem ty_tuple (B : BT X.mg) (hg : Gl X "tuple" := by rfl) : PE X (.Name "tuple" p) (tC (.ty "tuple")) := pe_bltn (v := .ty "tuple") hg B.tuple PyProof.Rows.boot_tuple rfl
theorem ty_list (B : BT X.mg) (hg : Gl X "list" := by rfl) : PE X (.Name "list" p) (tC (.ty "list")) := pe_bltn (v := .ty "list") hg B.list PyProof.Rows.boot_list rfl
theorem pe_all (B : BT X.mg) (ha : PE X e te) (hc : X.calm = true := by rfl) (hg : Gl X "all" := by rfl) (hs : starEach [e] X.env = (false, eval e X.env) :: starEach [] X.env := by rfl) : PE X (.Call (.Name "all" p) [e] [] pos) (tCB (rAll X.K) (tCons te tNil)) :=
  pe_callB (cr_all hc) hg B.all PyProof.Rows.boot_all (pa_cons ha pa_nil hs) (by decide) (by decide) hs
theorem pe_any (B : BT X.mg) (ha : PE X e te) (hc : X.calm = true := by rfl) (hg : Gl X "any" := by rfl) (hs : starEach [e] X.env = (false, eval e X.env) :: starEach [] X.env := by rfl) : PE X (.Call (.Name "any" p) [e] [] pos) (tCB (rAny X.K) (tCons te tNil)) :=
  pe_callB (cr_any hc) hg B.any PyProof.Rows.boot_any (pa_cons ha pa_nil hs) (by decide) (by decide) hs
end
end AL

set_option Elab.async false
set_option linter.all false
set_option maxRecDepth 100000
set_option maxHeartbeats 4000000
/-! AL3: readings on data and named objects: Cf (names' addresses, objects, heap), Rv, Tr; what an expression gives (Wx, Ev), what a statement does (Ws). -/
namespace AL
open PySem PySem.Spec PyProof.Rows L2
/-- a caught exception of the class cls, its dict at d -/
def exk (a : Addr) (cls : Value) (d : Option Addr) : HO := .ext fun h => ∃ (oe : Obj) (vs : Array Value), h.get? a = some oe ∧ Zc cls d oe ∧ oe.data = .fields vs
/-- what its dict holds -/
def XDict (H : Hp) : Option Addr → List (Str × V) → Prop
  | none, fs => fs = []
  | some dd, fs => H dd = some (.xd fs)
/-- a value as the proofs speak of it: data, the i-th named object, a plain value -/
inductive Lf where
  | d (x : PyData)
  | o (i : Nat)
  | raw (v : V)
/-- p: a tuple of such -/
inductive AV where
  | d (x : PyData)
  | o (i : Nat)
  | raw (v : V)
  | p (xs : List Lf)
def Lf.av : Lf → AV
  | .d x => .d x
  | .o i => .o i
  | .raw v => .raw v
/-- a named object -/
inductive AO where
  | dead
  | lst (xs : List AV)
  | dk (kvs : List (Key × AV))
  | ins (C : Addr) (fs : List (Str × AV))
  | exc (cls : Value) (fs : List (Str × AV))
abbrev Sto := List AO
abbrev Sl := List (Option AV)
structure Cf where
  al : List Addr
  st : Sto
  hp : Hp
  hid : List Addr
def Cf.Alive (c : Cf) (a : Addr) : Prop := a ∈ c.hid ∨ ∃ (i : Nat) (o : AO), c.al[i]? = some a ∧ c.st[i]? = some o ∧ o ≠ AO.dead
mutual
/-- data that stands outside the named objects -/
inductive Dt (K : PySem.W.Frag) (M : Addr → Prop) (H : Hp) : V → PyData → Prop
  | non : Dt K M H .non .none
  | bl (b : Bool) : Dt K M H (.bl b) (.bool b)
  | int (i : Int) : Dt K M H (.int i) (.int i)
  | str (x : Str) : Dt K M H (.str x) (.str x)
  | lst {a : Addr} {xs : List V} {ds : List PyData} : ¬ M a → H a = some (.lst xs) → DtA K M H xs ds → Dt K M H (.ref a) (.list ds)
  | tup {a : Addr} {xs : List V} {ds : List PyData} : ¬ M a → H a = some (.tup xs) → DtA K M H xs ds → Dt K M H (.ref a) (.tuple ds)
  | tupK {a : Addr} {xs : List V} {ds : List PyData} : (∀ H', SqT K H' a xs) → DtA K M H xs ds → Dt K M H (.ref a) (.tuple ds)
inductive DtA (K : PySem.W.Frag) (M : Addr → Prop) (H : Hp) : List V → List PyData → Prop
  | nil : DtA K M H [] []
  | cons {v : V} {vs : List V} {d : PyData} {ds : List PyData} : Dt K M H v d → DtA K M H vs ds → DtA K M H (v :: vs) (d :: ds)
end
section
variable {K : PySem.W.Frag} {M M' : Addr → Prop} {H H' : Hp}
mutual
theorem Dt.dp : ∀ (d : PyData) (v : V), Dt K M H v d → Dp K H v d
  | .none, _, h => by cases h; exact .non
  | .bool b, _, h => by cases h; exact .bl b
  | .int i, _, h => by cases h; exact .int i
  | .str x, _, h => by cases h; exact .str x
  | .list ds, _, h => by
    cases h with
    | lst _ e a => exact .lst (Or.inl (Or.inl e)) (DtA.dp ds _ a)
  | .tuple ds, _, h => by
    cases h with
    | tup _ e a => exact .tup (Or.inl (Or.inl e)) (DtA.dp ds _ a)
    | tupK e a => exact .tup (e H) (DtA.dp ds _ a)
  | .dict _, _, h => by cases h
theorem DtA.dp : ∀ (ds : List PyData) (vs : List V), DtA K M H vs ds → DpAll K H vs ds
  | [], _, h => by cases h; exact .nil
  | d :: ds, _, h => by
    cases h with
    | cons h1 h2 => exact .cons (Dt.dp d _ h1) (DtA.dp ds _ h2)
end
mutual
theorem Dt.mono (k : ∀ a o, ¬ M a → H a = some o → ¬ M' a ∧ H' a = some o) : ∀ (d : PyData) (v : V), Dt K M H v d → Dt K M' H' v d
  | .none, _, h => by cases h; exact .non
  | .bool b, _, h => by cases h; exact .bl b
  | .int i, _, h => by cases h; exact .int i
  | .str x, _, h => by cases h; exact .str x
  | .list ds, _, h => by
    cases h with
    | lst m e a => exact .lst (k _ _ m e).1 (k _ _ m e).2 (DtA.mono k ds _ a)
  | .tuple ds, _, h => by
    cases h with
    | tup m e a => exact .tup (k _ _ m e).1 (k _ _ m e).2 (DtA.mono k ds _ a)
    | tupK e a => exact .tupK e (DtA.mono k ds _ a)
  | .dict _, _, h => by cases h
theorem DtA.mono (k : ∀ a o, ¬ M a → H a = some o → ¬ M' a ∧ H' a = some o) : ∀ (ds : List PyData) (vs : List V), DtA K M H vs ds → DtA K M' H' vs ds
  | [], _, h => by cases h; exact .nil
  | d :: ds, _, h => by
    cases h with
    | cons h1 h2 => exact .cons (Dt.mono k d _ h1) (DtA.mono k ds _ h2)
end
theorem DtA.len : ∀ {vs : List V} {ds : List PyData}, DtA K M H vs ds → vs.length = ds.length
  | _, _, .nil => rfl
  | _, _, .cons _ h => congrArg (· + 1) h.len
theorem DtA.get : ∀ {vs : List V} {ds : List PyData} (i : Nat) (d : PyData), DtA K M H vs ds → ds[i]? = some d → ∃ v, vs[i]? = some v ∧ Dt K M H v d
  | _, _, i, d, .nil, e => by cases i <;> cases e
  | _, _, 0, d, .cons h _, e => ⟨_, rfl, by cases e; exact h⟩
  | _, _, i + 1, d, .cons _ h, e => h.get i d e
theorem DtA.getV : ∀ {vs : List V} {ds : List PyData} (i : Nat) (v : V), DtA K M H vs ds → vs[i]? = some v → ∃ d, ds[i]? = some d ∧ Dt K M H v d
  | _, _, i, d, .nil, e => by cases i <;> cases e
  | _, _, 0, d, .cons h _, e => ⟨_, rfl, by cases e; exact h⟩
  | _, _, i + 1, d, .cons _ h, e => h.getV i d e
theorem DtA.app : ∀ {vs ws : List V} {ds es : List PyData}, DtA K M H vs ds → DtA K M H ws es → DtA K M H (vs ++ ws) (ds ++ es)
  | _, _, _, _, .nil, h => h
  | _, _, _, _, .cons h h', g => .cons h (h'.app g)
theorem DtA.drop : ∀ {vs : List V} {ds : List PyData} (n : Nat), DtA K M H vs ds → DtA K M H (vs.drop n) (ds.drop n)
  | _, _, 0, h => h
  | _, _, n + 1, .nil => .nil
  | _, _, n + 1, .cons _ h => h.drop n
theorem DtA.take : ∀ {vs : List V} {ds : List PyData} (n : Nat), DtA K M H vs ds → DtA K M H (vs.take n) (ds.take n)
  | _, _, 0, h => .nil
  | _, _, n + 1, .nil => .nil
  | _, _, n + 1, .cons g h => .cons g (h.take n)
theorem DtA.strs : ∀ {vs : List V} {ys : List Str}, DtA K M H vs (ys.map PyData.str) → vs = ys.map V.str
  | _, [], .nil => rfl
  | _, y :: ys, .cons h g => by cases h; rw [g.strs]; rfl
theorem DtA.ofStrs : ∀ (ys : List Str), DtA K M H (ys.map V.str) (ys.map PyData.str)
  | [] => .nil
  | y :: ys => .cons (.str y) (DtA.ofStrs ys)
theorem DtA.bls : ∀ {vs : List V} {ys : List Bool}, DtA K M H vs (ys.map PyData.bool) → vs = ys.map V.bl
  | _, [], .nil => rfl
  | _, y :: ys, .cons h g => by cases h; rw [g.bls]; rfl
theorem DtA.ints : ∀ {vs : List V} {ys : List Int}, DtA K M H vs (ys.map PyData.int) → vs = ys.map V.int
  | _, [], .nil => rfl
  | _, y :: ys, .cons h g => by cases h; rw [g.ints]; rfl
end

/-- one state leads to another: data stays, names stay -/
structure Tr (c c' : Cf) : Prop where
  pre : ∃ l, c'.al = c.al ++ l
  keep : ∀ a o, ¬ c.Alive a → c.hp a = some o → ¬ c'.Alive a ∧ c'.hp a = some o
  dom : ∀ a, c'.hp a = none → c.hp a = none
  hid : c'.hid = c.hid
  keepH : ∀ a ∈ c.hid, c'.hp a = c.hp a
theorem Tr.refl (c : Cf) : Tr c c := ⟨⟨[], by simp⟩, fun _ _ h e => ⟨h, e⟩, fun _ h => h, rfl, fun _ _ => rfl⟩
theorem Tr.trans {a b c : Cf} (h : Tr a b) (g : Tr b c) : Tr a c := by
  obtain ⟨l, e⟩ := h.pre
  obtain ⟨l', e'⟩ := g.pre
  exact ⟨⟨l ++ l', by rw [e', e, List.append_assoc]⟩, fun x o n q => g.keep x o (h.keep x o n q).1 (h.keep x o n q).2, fun x q => h.dom x (g.dom x q), g.hid.trans h.hid, fun x m => (g.keepH x (by rw [h.hid]; exact m)).trans (h.keepH x m)⟩
theorem Tr.idx {c c' : Cf} (h : Tr c c') {i : Nat} {a : Addr} (e : c.al[i]? = some a) : c'.al[i]? = some a := by
  obtain ⟨l, q⟩ := h.pre
  rw [q, List.getElem?_append_left (List.getElem?_eq_some_iff.mp e).1]
  exact e
def RvL (K : PySem.W.Frag) (c : Cf) (v : V) : Lf → Prop
  | .d x => Dt K c.Alive c.hp v x
  | .o i => ∃ a, c.al[i]? = some a ∧ v = .ref a
  | .raw u => v = u
def Rv (K : PySem.W.Frag) (c : Cf) (v : V) : AV → Prop
  | .d x => Dt K c.Alive c.hp v x
  | .o i => ∃ a, c.al[i]? = some a ∧ v = .ref a
  | .raw u => v = u
  | .p xs => ∃ a us, v = .ref a ∧ ¬ c.Alive a ∧ c.hp a = some (.tup us) ∧ Paired (RvL K c) us xs
theorem rvL_rv {K : PySem.W.Frag} {c : Cf} {v : V} : ∀ {x : Lf}, RvL K c v x → Rv K c v x.av
  | .d _, r => r
  | .o _, r => r
  | .raw _, r => r
theorem paired_imp {α β : Type} {R S : α → β → Prop} (k : ∀ a b, R a b → S a b) : ∀ {l : List α} {m : List β}, Paired R l m → Paired S l m
  | _, _, .nil => .nil
  | _, _, .cons h t => .cons (k _ _ h) (paired_imp k t)
theorem Tr.rvL {K : PySem.W.Frag} {c c' : Cf} (h : Tr c c') {v : V} {x : Lf} (r : RvL K c v x) : RvL K c' v x := by
  cases x with
  | d x => exact Dt.mono h.keep x v r
  | o i =>
    obtain ⟨a, e, q⟩ := r
    exact ⟨a, h.idx e, q⟩
  | raw u => exact r
theorem Tr.rv {K : PySem.W.Frag} {c c' : Cf} (h : Tr c c') {v : V} {x : AV} (r : Rv K c v x) : Rv K c' v x := by
  cases x with
  | d x => exact Dt.mono h.keep x v r
  | o i =>
    obtain ⟨a, e, q⟩ := r
    exact ⟨a, h.idx e, q⟩
  | raw u => exact r
  | p xs =>
    obtain ⟨a, us, e, n, q, t⟩ := r
    exact ⟨a, us, e, (h.keep a _ n q).1, (h.keep a _ n q).2, paired_imp (fun _ _ r => h.rvL r) t⟩
abbrev Rvs (K : PySem.W.Frag) (c : Cf) : List V → List AV → Prop := Paired (Rv K c)
theorem Tr.rvs {K : PySem.W.Frag} {c c' : Cf} (h : Tr c c') : ∀ {vs : List V} {xs : List AV}, Rvs K c vs xs → Rvs K c' vs xs
  | _, _, .nil => .nil
  | _, _, .cons r rs => .cons (h.rv r) (h.rvs rs)
def Rf (K : PySem.W.Frag) (c : Cf) : List (Str × V) → List (Str × AV) → Prop := Paired fun p q => p.1 = q.1 ∧ Rv K c p.2 q.2
def Rk (K : PySem.W.Frag) (c : Cf) : List (Key × V) → List (Key × AV) → Prop := Paired fun p q => p.1 = q.1 ∧ Rv K c p.2 q.2
def Ro (K : PySem.W.Frag) (c : Cf) (a : Addr) : AO → Prop
  | .dead => True
  | .lst xs => ∃ vs, c.hp a = some (.lst vs) ∧ Rvs K c vs xs
  | .dk kvs => ∃ ws, c.hp a = some (.dK ws) ∧ Rk K c ws kvs
  | .ins C fs => ∃ dx ws, c.hp a = some (.ins C dx ws) ∧ Rf K c ws fs
  | .exc cls fs => ∃ d ws, c.hp a = some (exk a cls d) ∧ (∀ dd, d = some dd → ¬ c.Alive dd) ∧ XDict c.hp d ws ∧ Rf K c ws fs
theorem xdict_keep {K : PySem.W.Frag} {c c' : Cf} (keep : ∀ a o, ¬ c.Alive a → c.hp a = some o → ¬ c'.Alive a ∧ c'.hp a = some o) : ∀ {d : Option Addr} {ws : List (Str × V)}, (∀ dd, d = some dd → ¬ c.Alive dd) → XDict c.hp d ws → (∀ dd, d = some dd → ¬ c'.Alive dd) ∧ XDict c'.hp d ws
  | none, _, _, e => ⟨(fun _ z => nomatch z), e⟩
  | some dd, _, n, e => ⟨fun d' z => by cases z; exact (keep dd _ (n dd rfl) e).1, (keep dd _ (n dd rfl) e).2⟩
theorem Ro.tr {K : PySem.W.Frag} {c c' : Cf} (h : Tr c c') {a : Addr} (e : c'.hp a = c.hp a) : ∀ {o : AO}, Ro K c a o → Ro K c' a o
  | .dead, _ => trivial
  | .lst xs, ⟨vs, p, q⟩ => ⟨vs, e.trans p, h.rvs q⟩
  | .dk kvs, ⟨vs, p, q⟩ => ⟨vs, e.trans p, paired_imp (fun _ _ r => ⟨r.1, h.rv r.2⟩) q⟩
  | .ins C fs, ⟨dx, vs, p, q⟩ => ⟨dx, vs, e.trans p, paired_imp (fun _ _ r => ⟨r.1, h.rv r.2⟩) q⟩
  | .exc cls fs, ⟨d, vs, p, n, x, q⟩ => ⟨d, vs, e.trans p, (xdict_keep (K := K) h.keep n x).1, (xdict_keep (K := K) h.keep n x).2, paired_imp (fun _ _ r => ⟨r.1, h.rv r.2⟩) q⟩
structure SR (K : PySem.W.Frag) (c : Cf) : Prop where
  dj : ∀ a ∈ c.al, a ∉ c.hid
  hd : ∀ a ∈ c.hid, c.hp a ≠ none
  len : c.al.length = c.st.length
  nd : c.al.Nodup
  al : ∀ a ∈ c.al, c.hp a ≠ none
  ob : ∀ (i : Nat) (a : Addr) (o : AO), c.al[i]? = some a → c.st[i]? = some o → Ro K c a o
def SS (K : PySem.W.Frag) (c : Cf) (σ : L2.St) (sl : Sl) : Prop := σ.length = sl.length ∧ ∀ (i : Nat) (x : AV), sl[i]? = some (some x) → ∃ v, σ[i]? = some (some v) ∧ Rv K c v x
theorem Tr.ss {K : PySem.W.Frag} {c c' : Cf} {σ : L2.St} {sl : Sl} (h : Tr c c') (s : SS K c σ sl) : SS K c' σ sl :=
  ⟨s.1, fun i x e => let ⟨v, p, q⟩ := s.2 i x e; ⟨v, p, h.rv q⟩⟩
theorem SS.set {K : PySem.W.Frag} {c : Cf} {σ : L2.St} {sl : Sl} {i : Nat} {v : V} {x : AV} (s : SS K c σ sl) (r : Rv K c v x) : SS K c (σ.set i (some v)) (sl.set i (some x)) := by
  refine ⟨by rw [List.length_set, List.length_set]; exact s.1, fun j y e => ?_⟩
  by_cases h : i = j
  · subst h
    rw [List.getElem?_set_self' ] at e
    cases h1 : sl[i]? with
    | none => rw [h1] at e; cases e
    | some z =>
      rw [h1] at e
      have e : some x = some y := by simpa using e
      cases e
      have hl : i < σ.length := by rw [s.1]; exact (List.getElem?_eq_some_iff.mp h1).1
      exact ⟨v, by rw [List.getElem?_set_self hl], r⟩
  · rw [List.getElem?_set_ne h] at e ⊢
    exact s.2 j y e
/-- a slot forgotten -/
theorem SS.forget {K : PySem.W.Frag} {c : Cf} {σ : L2.St} {sl : Sl} {i : Nat} (s : SS K c σ sl) : SS K c (σ.set i none) (sl.set i none) := by
  refine ⟨by rw [List.length_set, List.length_set]; exact s.1, fun j y e => ?_⟩
  by_cases h : i = j
  · subst h
    rw [List.getElem?_set_self' ] at e
    cases h1 : sl[i]? with
    | none => rw [h1] at e; cases e
    | some z => rw [h1] at e; have e : (none : Option AV) = some y := by simpa using e
                cases e
  · rw [List.getElem?_set_ne h] at e ⊢
    exact s.2 j y e
/-! ### steps on the state -/
section
variable {K : PySem.W.Frag} {c : Cf}
theorem SR.lt (s : SR K c) {i : Nat} {a : Addr} (h : c.al[i]? = some a) : i < c.st.length := by
  rw [← s.len]; exact (List.getElem?_eq_some_iff.mp h).1
/-- a new thing that is no named object -/
def Cf.new (c : Cf) (p : Addr) (o : HO) : Cf := { c with hp := upd c.hp p o }
theorem tr_new {p : Addr} {o : HO} (s : SR K c) (h : c.hp p = none) : Tr c (c.new p o) ∧ SR K (c.new p o) ∧ ¬ (c.new p o).Alive p := by
  have t : Tr c (c.new p o) := ⟨⟨[], by simp [Cf.new]⟩, fun a u n e => ⟨n, by show upd c.hp p o a = _; rw [upd_ne (ne_of_none e h)]; exact e⟩, fun a e => by
    have e : upd c.hp p o a = none := e
    by_cases q : a = p
    · subst q; exact h
    · rw [upd_ne q] at e; exact e, rfl, fun a m => by
    show upd c.hp p o a = _
    rw [upd_ne]
    rintro rfl
    exact s.hd a m h⟩
  have hp : p ∉ c.al := fun m => s.al p m h
  refine ⟨t, ⟨s.dj, fun a m e => s.hd a m (t.dom a e), s.len, s.nd, fun a m e => s.al a m (t.dom a e), fun i a u e1 e2 => (s.ob i a u e1 e2).tr t ?_⟩, ?_⟩
  · show upd c.hp p o a = _
    rw [upd_ne]
    intro q
    subst q
    exact hp (List.mem_of_getElem? e1)
  · rintro (m | ⟨i, u, e1, _⟩)
    · exact s.hd p m h
    · exact hp (List.mem_of_getElem? e1)
/-- a new named object -/
def Cf.add (c : Cf) (p : Addr) (ho : HO) (o : AO) : Cf := ⟨c.al ++ [p], c.st ++ [o], upd c.hp p ho, c.hid⟩
theorem tr_add {p : Addr} {ho : HO} {o : AO} (s : SR K c) (h : c.hp p = none) : Tr c (c.add p ho o) := by
  have hp : p ∉ c.al := fun m => s.al p m h
  refine ⟨⟨[p], rfl⟩, fun a u n e => ⟨?_, by show upd c.hp p ho a = _; rw [upd_ne (ne_of_none e h)]; exact e⟩, fun a e => ?_, rfl, fun a m => ?_⟩
  · rintro (m | ⟨i, v, e1, e2, e3⟩)
    · exact n (Or.inl m)
    have e1 : (c.al ++ [p])[i]? = some a := e1
    have e2 : (c.st ++ [o])[i]? = some v := e2
    by_cases q : i < c.al.length
    · rw [List.getElem?_append_left q] at e1
      rw [List.getElem?_append_left (by rw [← s.len]; exact q)] at e2
      exact n (Or.inr ⟨i, v, e1, e2, e3⟩)
    · rw [List.getElem?_append_right (Nat.le_of_not_lt q)] at e1
      have : a = p := by
        cases hi : i - c.al.length with
        | zero => rw [hi] at e1; cases e1; rfl
        | succ k => rw [hi] at e1; cases e1
      subst this
      rw [h] at e; cases e
  · have e : upd c.hp p ho a = none := e
    by_cases q : a = p
    · subst q; exact h
    · rw [upd_ne q] at e; exact e
  · show upd c.hp p ho a = _
    rw [upd_ne]
    rintro rfl
    exact s.hd a m h
theorem sr_add {p : Addr} {ho : HO} {o : AO} (s : SR K c) (h : c.hp p = none) (r : Ro K (c.add p ho o) p o) : SR K (c.add p ho o) := by
  have hp : p ∉ c.al := fun m => s.al p m h
  have t := tr_add (ho := ho) (o := o) s h
  refine ⟨fun a m => ?_, fun a m e => s.hd a m (t.dom a e), by show (c.al ++ [p]).length = (c.st ++ [o]).length; rw [List.length_append, List.length_append, s.len]; rfl, ?_, ?_, ?_⟩
  · have m : a ∈ c.al ++ [p] := m
    rcases List.mem_append.mp m with m | m
    · exact s.dj a m
    · rw [List.mem_singleton] at m
      subst m
      exact fun m => s.hd a m h
  · show (c.al ++ [p]).Nodup
    rw [List.nodup_append]
    refine ⟨s.nd, by simp, fun a m b mb => ?_⟩
    rw [List.mem_singleton] at mb
    rintro rfl
    subst mb
    exact hp m
  · intro a m
    have m : a ∈ c.al ++ [p] := m
    rcases List.mem_append.mp m with m | m
    · exact fun e => s.al a m (t.dom a e)
    · rw [List.mem_singleton] at m
      subst m
      show upd c.hp a ho a ≠ none
      rw [upd_same]
      intro e; cases e
  · intro i a u e1 e2
    have f1 : (c.al ++ [p])[i]? = some a := e1
    have f2 : (c.st ++ [o])[i]? = some u := e2
    by_cases q : i < c.al.length
    · rw [List.getElem?_append_left q] at f1
      rw [List.getElem?_append_left (by rw [← s.len]; exact q)] at f2
      refine (s.ob i a u f1 f2).tr t ?_
      show upd c.hp p ho a = _
      rw [upd_ne]
      intro z
      subst z
      exact hp (List.mem_of_getElem? f1)
    · rw [List.getElem?_append_right (Nat.le_of_not_lt q)] at f1
      rw [List.getElem?_append_right (by rw [← s.len]; exact Nat.le_of_not_lt q)] at f2
      cases hi : i - c.al.length with
      | zero =>
        rw [hi] at f1
        rw [← s.len, hi] at f2
        cases f1
        cases f2
        exact r
      | succ k => rw [hi] at f1; cases f1
theorem add_idx {p : Addr} {ho : HO} {o : AO} (s : SR K c) : (c.add p ho o).al[c.st.length]? = some p := by
  show (c.al ++ [p])[c.st.length]? = _
  rw [← s.len, List.getElem?_append_right (Nat.le_refl _), Nat.sub_self]
  rfl
/-- a named object changed -/
def Cf.put (c : Cf) (i : Nat) (a : Addr) (ho : HO) (o : AO) : Cf := ⟨c.al, c.st.set i o, upd c.hp a ho, c.hid⟩
theorem tr_put {i : Nat} {a : Addr} {ho : HO} {o u : AO} (s : SR K c) (ia : c.al[i]? = some a) (iu : c.st[i]? = some u) (hu : u ≠ .dead) : Tr c (c.put i a ho o) := by
  refine ⟨⟨[], by simp [Cf.put]⟩, fun b v n e => ⟨?_, ?_⟩, fun b e => ?_, rfl, fun b m => ?_⟩
  · rintro (m | ⟨j, w, e1, e2, e3⟩)
    · exact n (Or.inl m)
    have e1 : c.al[j]? = some b := e1
    have e2 : (c.st.set i o)[j]? = some w := e2
    by_cases q : i = j
    · subst q
      rw [ia] at e1; cases e1
      exact n (Or.inr ⟨i, u, ia, iu, hu⟩)
    · rw [List.getElem?_set_ne q] at e2
      exact n (Or.inr ⟨j, w, e1, e2, e3⟩)
  · show upd c.hp a ho b = _
    rw [upd_ne]
    · exact e
    · rintro rfl
      exact n (Or.inr ⟨i, u, ia, iu, hu⟩)
  · have e : upd c.hp a ho b = none := e
    by_cases q : b = a
    · subst q; rw [upd_same] at e; cases e
    · rw [upd_ne q] at e; exact e
  · show upd c.hp a ho b = _
    rw [upd_ne]
    rintro rfl
    exact s.dj b (List.mem_of_getElem? ia) m
theorem nodup_idx {l : List Addr} (nd : l.Nodup) {i j : Nat} {a : Addr} (h : l[i]? = some a) (g : l[j]? = some a) : i = j := by
  obtain ⟨hi, e⟩ := List.getElem?_eq_some_iff.mp h
  obtain ⟨hj, f⟩ := List.getElem?_eq_some_iff.mp g
  exact (List.getElem_inj nd).mp (e.trans f.symm)
theorem sr_put {i : Nat} {a : Addr} {ho : HO} {o u : AO} (s : SR K c) (ia : c.al[i]? = some a) (iu : c.st[i]? = some u) (hu : u ≠ .dead) (r : Ro K (c.put i a ho o) a o) : SR K (c.put i a ho o) := by
  have t := tr_put (ho := ho) (o := o) s ia iu hu
  refine ⟨s.dj, fun b m e => s.hd b m (t.dom b e), by show c.al.length = (c.st.set i o).length; rw [List.length_set]; exact s.len, s.nd, fun b m e => s.al b m (t.dom b e), fun j b v e1 e2 => ?_⟩
  have f1 : c.al[j]? = some b := e1
  have f2 : (c.st.set i o)[j]? = some v := e2
  by_cases q : i = j
  · subst q
    rw [ia] at f1; cases f1
    rw [List.getElem?_set_self (s.lt ia)] at f2
    cases f2
    exact r
  · rw [List.getElem?_set_ne q] at f2
    refine (s.ob j b v f1 f2).tr t ?_
    show upd c.hp a ho b = _
    rw [upd_ne]
    rintro rfl
    exact q (nodup_idx s.nd ia f1)
/-- a named list becomes data -/
def Cf.kill (c : Cf) (i : Nat) : Cf := { c with st := c.st.set i .dead }
theorem kill_alive {i : Nat} {a : Addr} (h : (c.kill i).Alive a) : c.Alive a := by
  rcases h with m | ⟨j, o, e1, e2, e3⟩
  · exact Or.inl m
  have e2 : (c.st.set i .dead)[j]? = some o := e2
  by_cases q : i = j
  · subst q
    rw [List.getElem?_set_self'] at e2
    cases h1 : c.st[i]? with
    | none => rw [h1] at e2; cases e2
    | some z => rw [h1] at e2; have e2 : some AO.dead = some o := by simpa using e2
                cases e2; exact absurd rfl e3
  · rw [List.getElem?_set_ne q] at e2
    exact Or.inr ⟨j, o, e1, e2, e3⟩
theorem tr_kill {i : Nat} : Tr c (c.kill i) := ⟨⟨[], by simp [Cf.kill]⟩, fun a o n e => ⟨fun h => n (kill_alive h), e⟩, fun _ e => e, rfl, fun _ _ => rfl⟩
theorem sr_kill {i : Nat} (s : SR K c) : SR K (c.kill i) := by
  refine ⟨s.dj, s.hd, by show c.al.length = (c.st.set i .dead).length; rw [List.length_set]; exact s.len, s.nd, s.al, fun j b v e1 e2 => ?_⟩
  have f2 : (c.st.set i .dead)[j]? = some v := e2
  by_cases q : i = j
  · subst q
    rw [List.getElem?_set_self'] at f2
    cases h1 : c.st[i]? with
    | none => rw [h1] at f2; cases f2
    | some z => rw [h1] at f2; have f2 : some AO.dead = some v := by simpa using f2
                cases f2; trivial
  · rw [List.getElem?_set_ne q] at f2
    exact (s.ob j b v e1 f2).tr tr_kill rfl
theorem rvs_dta : ∀ {vs : List V} {ds : List PyData}, Rvs K c vs (ds.map AV.d) → DtA K c.Alive c.hp vs ds
  | _, [], .nil => .nil
  | _, d :: ds, .cons h g => .cons h (rvs_dta g)
theorem dta_rvs : ∀ {vs : List V} {ds : List PyData}, DtA K c.Alive c.hp vs ds → Rvs K c vs (ds.map AV.d)
  | _, [], .nil => .nil
  | _, d :: ds, .cons h g => .cons h (dta_rvs g)
theorem kill_rv {i : Nat} {a : Addr} {ds : List PyData} (s : SR K c) (ia : c.al[i]? = some a) (io : c.st[i]? = some (.lst (ds.map AV.d))) : Rv K (c.kill i) (.ref a) (.d (.list ds)) := by
  obtain ⟨vs, e, r⟩ := s.ob i a _ ia io
  refine .lst ?_ e (rvs_dta ((tr_kill (i := i)).rvs r))
  rintro (m | ⟨j, o, e1, e2, e3⟩)
  · exact s.dj a (List.mem_of_getElem? ia) m
  have e1 : c.al[j]? = some a := e1
  have : i = j := nodup_idx s.nd ia e1
  subst this
  have e2 : (c.st.set i .dead)[i]? = some o := e2
  rw [List.getElem?_set_self (s.lt ia)] at e2
  cases e2
  exact e3 rfl
end
end AL

set_option Elab.async false
set_option linter.all false
set_option maxRecDepth 100000
set_option maxHeartbeats 4000000
/-! AL4: what an expression gives (Ev, Et, Ea: always the same; Wx, Wt, Wa: with what follows), what a statement does (Ws). -/
namespace AL
open PySem PySem.Spec PyProof.Rows L2
theorem paired_app {α β : Type} {R : α → β → Prop} : ∀ {l l' : List α} {m m' : List β}, Paired R l m → Paired R l' m' → Paired R (l ++ l') (m ++ m')
  | _, _, _, _, .nil, h => h
  | _, _, _, _, .cons h t, g => .cons h (paired_app t g)
section defs
variable (K : PySem.W.Frag) (b : Cf)
def Ev (te : TE) (sl : Sl) (st : Sto) (x : AV) : Prop := ∀ (c : Cf) (σ : L2.St), c.st = st → SR K c → SS K c σ sl → ∀ Q : VK, (∀ v c', Tr c c' → SR K c' → c'.st = st → Rv K c' v x → Q v c'.hp) → te σ c.hp Q
def Et (tt : TT) (sl : Sl) (st : Sto) (r : Bool) : Prop := ∀ (c : Cf) (σ : L2.St), c.st = st → SR K c → SS K c σ sl → ∀ Q : Bool → Hp → Prop, (∀ c', Tr c c' → SR K c' → c'.st = st → Q r c'.hp) → tt σ c.hp Q
def Ea (ta : TA) (sl : Sl) (st : Sto) (xs : List AV) : Prop := ∀ (c : Cf) (σ : L2.St), c.st = st → SR K c → SS K c σ sl → ∀ Q : List V → Hp → Prop, (∀ vs c', Tr c c' → SR K c' → c'.st = st → Rvs K c' vs xs → Q vs c'.hp) → ta σ c.hp Q
def Eo (to : TO) (sl : Sl) (st : Sto) (r : Option Int) : Prop := ∀ (c : Cf) (σ : L2.St), c.st = st → SR K c → SS K c σ sl → ∀ Q : Option Int → Hp → Prop, (∀ c', Tr c c' → SR K c' → c'.st = st → Q r c'.hp) → to σ c.hp Q
def Wx (te : TE) (sl : Sl) (st : Sto) (Φ : AV → Sto → Prop) : Prop := ∀ (c : Cf) (σ : L2.St), c.st = st → Tr b c → SR K c → SS K c σ sl → ∀ Q : VK, (∀ v c' x, Tr c c' → SR K c' → Rv K c' v x → Φ x c'.st → Q v c'.hp) → te σ c.hp Q
def Wt (tt : TT) (sl : Sl) (st : Sto) (Φ : Bool → Sto → Prop) : Prop := ∀ (c : Cf) (σ : L2.St), c.st = st → Tr b c → SR K c → SS K c σ sl → ∀ Q : Bool → Hp → Prop, (∀ r c', Tr c c' → SR K c' → Φ r c'.st → Q r c'.hp) → tt σ c.hp Q
def Wa (ta : TA) (sl : Sl) (st : Sto) (Φ : List AV → Sto → Prop) : Prop := ∀ (c : Cf) (σ : L2.St), c.st = st → Tr b c → SR K c → SS K c σ sl → ∀ Q : List V → Hp → Prop, (∀ vs c' xs, Tr c c' → SR K c' → Rvs K c' vs xs → Φ xs c'.st → Q vs c'.hp) → ta σ c.hp Q
/-- a two-place operation on values (pure), a call on values (pure) -/
def Op (r : R2) (x y : AV) (st : Sto) (z : AV) : Prop := ∀ (c : Cf) (v w : V), c.st = st → SR K c → Rv K c v x → Rv K c w y → ∀ Q : VK, (∀ u c', Tr c c' → SR K c' → c'.st = st → Rv K c' u z → Q u c'.hp) → r v w c.hp Q
def Oc (r : List V → Hp → VK → Prop) (xs : List AV) (st : Sto) (z : AV) : Prop := ∀ (c : Cf) (vs : List V), c.st = st → SR K c → Rvs K c vs xs → ∀ Q : VK, (∀ u c', Tr c c' → SR K c' → c'.st = st → Rv K c' u z → Q u c'.hp) → r vs c.hp Q
def Om (T : String) (r : V → List V → Hp → VK → Prop) (x : AV) (xs : List AV) (st : Sto) (z : AV) : Prop := ∀ (c : Cf) (v : V), c.st = st → SR K c → Rv K c v x → tyV K T v c.hp ∧ ∀ (c1 : Cf) (vs : List V), Tr c c1 → SR K c1 → c1.st = st → Rvs K c1 vs xs → ∀ Q : VK, (∀ u c', Tr c1 c' → SR K c' → c'.st = st → Rv K c' u z → Q u c'.hp) → r v vs c1.hp Q
structure DE where
  nx : Sl → Sto → Prop
  rt : AV → Sto → Prop
  bk : Sl → Sto → Prop := fun _ _ => False
  ct : Sl → Sto → Prop := fun _ _ => False
structure DOk (D : Ends) (e : DE) : Prop where
  nx : ∀ (c : Cf) (σ : L2.St) (sl : Sl), Tr b c → SR K c → SS K c σ sl → e.nx sl c.st → D.nx σ c.hp
  rt : ∀ (c : Cf) (v : V) (x : AV), Tr b c → SR K c → Rv K c v x → e.rt x c.st → D.rt v c.hp
  bk : ∀ (c : Cf) (σ : L2.St) (sl : Sl), Tr b c → SR K c → SS K c σ sl → e.bk sl c.st → D.bk σ c.hp
  ct : ∀ (c : Cf) (σ : L2.St) (sl : Sl), Tr b c → SR K c → SS K c σ sl → e.ct sl c.st → D.ct σ c.hp
def Ws (ts : TS) (sl : Sl) (st : Sto) (e : DE) : Prop := ∀ b', Tr b b' → ∀ D, DOk K b' D e → ∀ (c : Cf) (σ : L2.St), c.st = st → Tr b' c → SR K c → SS K c σ sl → ts D σ c.hp
/-- an exception as the proofs speak of it -/
structure AE where
  cls : Value
  fs : Option (List (Str × AV))
def Er (c : Cf) (cls : Value) (d : Option Addr) (e : AE) : Prop := cls = e.cls ∧ match e.fs with
  | none => d = none
  | some fs => ∃ dx ws, d = some dx ∧ c.hp dx = some (.xd ws) ∧ ¬ c.Alive dx ∧ Rf K c ws fs
/-- what follows an exception -/
def ErrOk (W : WX) (G : Sl → AE → Sto → Prop) : Prop := ∀ (cls : Value) (d : Option Addr) (c : Cf) (σ : L2.St) (sl : Sl) (e : AE), Tr b c → SR K c → SS K c σ sl → Er K c cls d e → G sl e c.st → W cls d σ c.hp
/-- a promise on data and names -/
abbrev DS := List AV → Sto → (AV → Sto → Prop) → (AE → Sto → Prop) → Prop
def spD (F : DS) : Sp := fun vs H Q E => ∃ (c : Cf) (xs : List AV) (Φ : AV → Sto → Prop) (Ψ : AE → Sto → Prop), c.hp = H ∧ SR K c ∧ Rvs K c vs xs ∧ F xs c.st Φ Ψ ∧
  (∀ v c' x, Tr c c' → SR K c' → Rv K c' v x → Φ x c'.st → Q v c'.hp) ∧ ∀ cls d c' e, Tr c c' → SR K c' → Er K c' cls d e → Ψ e c'.st → E cls d c'.hp
end defs
section
variable {K : PySem.W.Frag} {b : Cf} {sl : Sl} {st : Sto} {te ta tb tc : TE} {tt tu : TT} {x y z : AV} {Φ : AV → Sto → Prop} {p q : Bool}
/-! ### from pure to the rest -/
theorem wx_of (h : Ev K te sl st x) (k : Φ x st) : Wx K b te sl st Φ := fun c σ e _ s S Q q => h c σ e s S Q fun v c' t s' e' r => q v c' x t s' r (by rw [e']; exact k)
theorem wt_of {Φ : Bool → Sto → Prop} (h : Et K tt sl st p) (k : Φ p st) : Wt K b tt sl st Φ := fun c σ e _ s S Q q => h c σ e s S Q fun c' t s' e' => q p c' t s' (by rw [e']; exact k)
theorem wa_of {ta : TA} {xs : List AV} {Φ : List AV → Sto → Prop} (h : Ea K ta sl st xs) (k : Φ xs st) : Wa K b ta sl st Φ := fun c σ e _ s S Q q => h c σ e s S Q fun v c' t s' e' r => q v c' xs t s' r (by rw [e']; exact k)
theorem Wx.mono {Φ' : AV → Sto → Prop} (h : Wx K b te sl st Φ) (k : ∀ x st', Φ x st' → Φ' x st') : Wx K b te sl st Φ' := fun c σ e tb s S Q q => h c σ e tb s S Q fun v c' x t s' r f => q v c' x t s' r (k _ _ f)
/-! ### pure expressions -/
theorem ev_var {i : Nat} (h : sl[i]? = some (some x)) : Ev K (tVar i) sl st x := fun c σ e s S Q q =>
  let ⟨v, h1, h2⟩ := S.2 i x h
  ⟨v, h1, q v c (Tr.refl c) s e h2⟩
theorem ev_raw {v : V} : Ev K (tC v) sl st (.raw v) := fun c σ e s S Q q => q v c (Tr.refl c) s e rfl
theorem ev_i {i : Int} : Ev K (tC (.int i)) sl st (.d (.int i)) := fun c σ e s S Q q => q _ c (Tr.refl c) s e (.int i)
theorem ev_b {r : Bool} : Ev K (tC (.bl r)) sl st (.d (.bool r)) := fun c σ e s S Q q => q _ c (Tr.refl c) s e (.bl r)
theorem ev_n : Ev K (tC .non) sl st (.d .none) := fun c σ e s S Q q => q _ c (Tr.refl c) s e .non
theorem ev_s {z : Str} : Ev K (tC (.str z)) sl st (.d (.str z)) := fun c σ e s S Q q => q _ c (Tr.refl c) s e (.str z)
theorem ev_op {r : R2} (ha : Ev K ta sl st x) (hb : Ev K tb sl st y) (hr : Op K r x y st z) : Ev K (tOp r ta tb) sl st z := fun c σ e s S Q q =>
  ha c σ e s S _ fun v c1 t1 s1 e1 r1 => hb c1 σ e1 s1 (t1.ss S) _ fun w c2 t2 s2 e2 r2 => hr c2 v w e2 s2 (t2.rv r1) r2 Q fun u c3 t3 s3 e3 r3 => q u c3 ((t1.trans t2).trans t3) s3 e3 r3
theorem ev_cb {r : List V → Hp → VK → Prop} {ta : TA} {xs : List AV} (ha : Ea K ta sl st xs) (hr : Oc K r xs st z) : Ev K (tCB r ta) sl st z := fun c σ e s S Q q =>
  ha c σ e s S _ fun vs c1 t1 s1 e1 r1 => hr c1 vs e1 s1 r1 Q fun u c3 t3 s3 e3 r3 => q u c3 (t1.trans t3) s3 e3 r3
theorem ev_bm {T : String} {r : V → List V → Hp → VK → Prop} {to : TE} {ta : TA} {xs : List AV} (ho : Ev K to sl st x) (ha : Ea K ta sl st xs) (hr : Om K T r x xs st z) : Ev K (tBM K T r to ta) sl st z := fun c σ e s S Q q =>
  ho c σ e s S _ fun v c1 t1 s1 e1 r1 => ⟨(hr c1 v e1 s1 r1).1, ha c1 σ e1 s1 (t1.ss S) _ fun vs c2 t2 s2 e2 r2 => (hr c1 v e1 s1 r1).2 c2 vs t2 s2 e2 r2 Q fun u c3 t3 s3 e3 r3 => q u c3 ((t1.trans t2).trans t3) s3 e3 r3⟩
theorem ea_nil : Ea K tNil sl st [] := fun c σ e s S Q q => q [] c (Tr.refl c) s e .nil
theorem ea_cons {tr : TA} {xs : List AV} (h : Ev K te sl st x) (hr : Ea K tr sl st xs) : Ea K (tCons te tr) sl st (x :: xs) := fun c σ e s S Q q =>
  h c σ e s S _ fun v c1 t1 s1 e1 r1 => hr c1 σ e1 s1 (t1.ss S) _ fun vs c2 t2 s2 e2 r2 => q (v :: vs) c2 (t1.trans t2) s2 e2 (.cons (t2.rv r1) r2)
theorem et_B (h : Ev K te sl st (.d (.bool p))) : Et K (tB te) sl st p := fun c σ e s S Q q => h c σ e s S _ fun v c1 t1 s1 e1 r1 => ⟨p, by cases r1; rfl, q c1 t1 s1 e1⟩
theorem et_test (h : Ev K te sl st (.d (.bool p))) : Et K (tTest te) sl st p := fun c σ e s S Q q => h c σ e s S _ fun v c1 t1 s1 e1 r1 => ⟨p, by cases r1; rfl, q c1 t1 s1 e1⟩
theorem et_not (h : Et K tt sl st p) : Et K (tNot tt) sl st (!p) := fun c σ e s S Q q => h c σ e s S _ fun c1 t1 s1 e1 => q c1 t1 s1 e1
theorem et_and (h1 : Et K tt sl st p) (h2 : p = true → Et K tu sl st q) : Et K (tAnd tt tu) sl st (p && q) := fun c σ e s S Q k => h1 c σ e s S _ fun c1 t1 s1 e1 => by
  cases p with
  | true =>
    show tu σ c1.hp Q
    exact h2 rfl c1 σ e1 s1 (t1.ss S) Q fun c2 t2 s2 e2 => k c2 (t1.trans t2) s2 e2
  | false =>
    show Q false c1.hp
    exact k c1 t1 s1 e1
theorem et_or (h1 : Et K tt sl st p) (h2 : p = false → Et K tu sl st q) : Et K (tOr tt tu) sl st (p || q) := fun c σ e s S Q k => h1 c σ e s S _ fun c1 t1 s1 e1 => by
  cases p with
  | true =>
    show Q true c1.hp
    exact k c1 t1 s1 e1
  | false =>
    show tu σ c1.hp Q
    exact h2 rfl c1 σ e1 s1 (t1.ss S) Q fun c2 t2 s2 e2 => k c2 (t1.trans t2) s2 e2
theorem ev_andV (h1 : Ev K ta sl st (.d (.bool p))) (h2 : p = true → Ev K tb sl st (.d (.bool q))) : Ev K (tAndV ta tb) sl st (.d (.bool (p && q))) := fun c σ e s S Q k => h1 c σ e s S _ fun v c1 t1 s1 e1 r1 => ⟨p, by cases r1; rfl, by
  cases p with
  | true =>
    show tb σ c1.hp Q
    exact h2 rfl c1 σ e1 s1 (t1.ss S) Q fun v c2 t2 s2 e2 r2 => k v c2 (t1.trans t2) s2 e2 r2
  | false =>
    show Q (.bl false) c1.hp
    exact k _ c1 t1 s1 e1 (.bl _)⟩
theorem ev_orV (h1 : Ev K ta sl st (.d (.bool p))) (h2 : p = false → Ev K tb sl st (.d (.bool q))) : Ev K (tOrV ta tb) sl st (.d (.bool (p || q))) := fun c σ e s S Q k => h1 c σ e s S _ fun v c1 t1 s1 e1 r1 => ⟨p, by cases r1; rfl, by
  cases p with
  | true =>
    show Q (.bl true) c1.hp
    exact k _ c1 t1 s1 e1 (.bl _)
  | false =>
    show tb σ c1.hp Q
    exact h2 rfl c1 σ e1 s1 (t1.ss S) Q fun v c2 t2 s2 e2 r2 => k v c2 (t1.trans t2) s2 e2 r2⟩
theorem ev_notV (h1 : Ev K ta sl st (.d (.bool p))) : Ev K (tNotV ta) sl st (.d (.bool (!p))) := fun c σ e s S Q k => h1 c σ e s S _ fun v c1 t1 s1 e1 r1 => ⟨p, by cases r1; rfl, k _ c1 t1 s1 e1 (.bl _)⟩
theorem ev_if (h : Et K tt sl st p) (h1 : p = true → Ev K ta sl st x) (h2 : p = false → Ev K tb sl st x) : Ev K (tIf tt ta tb) sl st x := fun c σ e s S Q k => h c σ e s S _ fun c1 t1 s1 e1 => by
  cases p with
  | true =>
    show ta σ c1.hp Q
    exact h1 rfl c1 σ e1 s1 (t1.ss S) Q fun v c2 t2 s2 e2 r2 => k v c2 (t1.trans t2) s2 e2 r2
  | false =>
    show tb σ c1.hp Q
    exact h2 rfl c1 σ e1 s1 (t1.ss S) Q fun v c2 t2 s2 e2 r2 => k v c2 (t1.trans t2) s2 e2 r2
theorem ev_is (h : Ev K te sl st x) (e : x = y) : Ev K te sl st y := e ▸ h
theorem et_is (h : Et K tt sl st p) (e : p = q) : Et K tt sl st q := e ▸ h
/-- a comparison of three -/
theorem ev_chain {r r' : R2} (ha : Ev K ta sl st x) (hb : Ev K tb sl st y) (hr : Op K r x y st (.d (.bool p))) (hc : p = true → Ev K tc sl st z) (hr' : p = true → Op K r' y z st (.d (.bool q))) : Ev K (tChain r r' ta tb tc) sl st (.d (.bool (p && q))) := fun c σ e s S Q k =>
  ha c σ e s S _ fun v c1 t1 s1 e1 r1 => hb c1 σ e1 s1 (t1.ss S) _ fun w c2 t2 s2 e2 r2 => hr c2 v w e2 s2 (t2.rv r1) r2 _ fun u c3 t3 s3 e3 r3 => ⟨p, by cases r3; rfl, by
  cases p with
  | true =>
    exact hc rfl c3 σ e3 s3 (((t1.trans t2).trans t3).ss S) _ fun u4 c4 t4 s4 e4 r4 => hr' rfl c4 w u4 e4 s4 ((t3.trans t4).rv r2) r4 Q fun u5 c5 t5 s5 e5 r5 => k u5 c5 ((((t1.trans t2).trans t3).trans t4).trans t5) s5 e5 r5
  | false => exact k _ c3 ((t1.trans t2).trans t3) s3 e3 (.bl _)⟩
/-- a written tuple, a written list, as data -/
theorem ev_tup {ta : TA} {ds : List PyData} (h : Ea K ta sl st (ds.map AV.d)) (hl : ds.length ≤ 100000) : Ev K (tTup ta) sl st (.d (.tuple ds)) := fun c σ e s S Q q => h c σ e s S _ fun vs c1 t1 s1 e1 r1 => by
  have a := rvs_dta r1
  refine ⟨Nat.le_trans (by rw [a.len]; exact hl) (by decide), fun p hp => ?_⟩
  obtain ⟨t2, s2, n2⟩ := tr_new (o := .tup vs) s1 hp
  exact q _ _ (t1.trans t2) s2 e1 (.tup n2 upd_same (DtA.mono t2.keep _ _ a))
theorem ev_lst {ta : TA} {ds : List PyData} (h : Ea K ta sl st (ds.map AV.d)) (hl : ds.length ≤ 100000) : Ev K (tLst ta) sl st (.d (.list ds)) := fun c σ e s S Q q => h c σ e s S _ fun vs c1 t1 s1 e1 r1 => by
  have a := rvs_dta r1
  refine ⟨Nat.le_trans (by rw [a.len]; exact hl) (by decide), fun p hp => ?_⟩
  obtain ⟨t2, s2, n2⟩ := tr_new (o := .lst vs) s1 hp
  exact q _ _ (t1.trans t2) s2 e1 (.lst n2 upd_same (DtA.mono t2.keep _ _ a))
/-- a written list, as a named object -/
theorem wx_lst {ta : TA} {xs : List AV} (h : Ea K ta sl st xs) (hl : xs.length ≤ 100000) (k : Φ (.o st.length) (st ++ [.lst xs])) : Wx K b (tLst ta) sl st Φ := fun c σ e _ s S Q q => h c σ e s S _ fun vs c1 t1 s1 e1 r1 => by
  refine ⟨Nat.le_trans (by rw [show vs.length = xs.length from r1.length]; exact hl) (by decide), fun p hp => ?_⟩
  have t2 := tr_add (ho := .lst vs) (o := .lst xs) s1 hp
  have s2 := sr_add (ho := .lst vs) (o := .lst xs) s1 hp ⟨vs, upd_same, t2.rvs r1⟩
  refine q (.ref p) _ (.o st.length) (t1.trans t2) s2 ⟨p, ?_, rfl⟩ ?_
  · rw [← e1]; exact add_idx s1
  · show Φ _ (c1.st ++ [.lst xs])
    rw [e1]; exact k
/-! ### expressions that may change objects -/
theorem wx_op {r : R2} (ha : Wx K b ta sl st fun x st1 => Wx K b tb sl st1 fun y st2 => ∃ z, Op K r x y st2 z ∧ Φ z st2) : Wx K b (tOp r ta tb) sl st Φ := fun c σ e tb s S Q q =>
  ha c σ e tb s S _ fun v c1 x t1 s1 r1 h1 => h1 c1 σ rfl (tb.trans t1) s1 (t1.ss S) _ fun w c2 y t2 s2 r2 ⟨z, hr, k⟩ => hr c2 v w rfl s2 (t2.rv r1) r2 Q fun u c3 t3 s3 e3 r3 => q u c3 z ((t1.trans t2).trans t3) s3 r3 (by rw [e3]; exact k)
theorem wx_cb {r : List V → Hp → VK → Prop} {ta : TA} (ha : Wa K b ta sl st fun xs st1 => ∃ z, Oc K r xs st1 z ∧ Φ z st1) : Wx K b (tCB r ta) sl st Φ := fun c σ e tb s S Q q =>
  ha c σ e tb s S _ fun vs c1 xs t1 s1 r1 ⟨z, hr, k⟩ => hr c1 vs rfl s1 r1 Q fun u c3 t3 s3 e3 r3 => q u c3 z (t1.trans t3) s3 r3 (by rw [e3]; exact k)
theorem wa_nil {Φ : List AV → Sto → Prop} (k : Φ [] st) : Wa K b tNil sl st Φ := wa_of ea_nil k
theorem wa_cons {tr : TA} {Φ : List AV → Sto → Prop} (h : Wx K b te sl st fun x st1 => Wa K b tr sl st1 fun xs st2 => Φ (x :: xs) st2) : Wa K b (tCons te tr) sl st Φ := fun c σ e tb s S Q q =>
  h c σ e tb s S _ fun v c1 x t1 s1 r1 h1 => h1 c1 σ rfl (tb.trans t1) s1 (t1.ss S) _ fun vs c2 xs t2 s2 r2 k => q (v :: vs) c2 (x :: xs) (t1.trans t2) s2 (.cons (t2.rv r1) r2) k
theorem wt_B {Φ : Bool → Sto → Prop} (h : Wx K b te sl st fun x st1 => ∃ r, x = .d (.bool r) ∧ Φ r st1) : Wt K b (tB te) sl st Φ := fun c σ e tb s S Q q =>
  h c σ e tb s S _ fun v c1 x t1 s1 r1 ⟨r, e2, k⟩ => by
    subst e2
    exact ⟨r, by cases r1; rfl, q r c1 t1 s1 k⟩
theorem wt_test {Φ : Bool → Sto → Prop} (h : Wx K b te sl st fun x st1 => ∃ r, x = .d (.bool r) ∧ Φ r st1) : Wt K b (tTest te) sl st Φ := fun c σ e tb s S Q q =>
  h c σ e tb s S _ fun v c1 x t1 s1 r1 ⟨r, e2, k⟩ => by
    subst e2
    exact ⟨r, by cases r1; rfl, q r c1 t1 s1 k⟩
theorem wx_if (h : Wt K b tt sl st fun r st1 => if r = true then Wx K b ta sl st1 Φ else Wx K b tc sl st1 Φ) : Wx K b (tIf tt ta tc) sl st Φ := fun c σ e tb s S Q q =>
  h c σ e tb s S _ fun r c1 t1 s1 h1 => by
    cases r with
    | true =>
      rw [if_pos rfl] at h1 ⊢
      exact h1 c1 σ rfl (tb.trans t1) s1 (t1.ss S) Q fun v c2 x t2 s2 r2 k => q v c2 x (t1.trans t2) s2 r2 k
    | false =>
      rw [if_neg (by decide)] at h1 ⊢
      exact h1 c1 σ rfl (tb.trans t1) s1 (t1.ss S) Q fun v c2 x t2 s2 r2 k => q v c2 x (t1.trans t2) s2 r2 k
/-- a written tuple behind things that change objects -/
theorem wx_tup {ta : TA} (h : Wa K b ta sl st fun xs st1 => ∃ ds : List PyData, xs = ds.map AV.d ∧ ds.length ≤ 100000 ∧ Φ (.d (.tuple ds)) st1) : Wx K b (tTup ta) sl st Φ := fun c σ e tb s S Q q => h c σ e tb s S _ fun vs c1 xs t1 s1 r1 ⟨ds, e2, hl, k⟩ => by
  subst e2
  have a := rvs_dta r1
  refine ⟨Nat.le_trans (by rw [a.len]; exact hl) (by decide), fun p hp => ?_⟩
  obtain ⟨t2, s2, n2⟩ := tr_new (o := .tup vs) s1 hp
  exact q (.ref p) _ (.d (.tuple ds)) (t1.trans t2) s2 (Dt.tup n2 upd_same (DtA.mono t2.keep _ _ a)) k
/-- a call -/
theorem wx_cal {F : DS} {W : WX} {G : Sl → AE → Sto → Prop} {dvs : List V} {ds : List AV} {ta : TA} (hW : ErrOk K b W G) (hd : ∀ c, Rvs K c dvs ds) (h : Wa K b ta sl st fun xs st1 => F (xs ++ ds) st1 Φ (G sl)) : Wx K b (tCalW (spD K F) dvs W ta) sl st Φ := fun c σ e tb s S Q q =>
  h c σ e tb s S _ fun vs c1 xs t1 s1 r1 f => ⟨c1, xs ++ ds, Φ, G sl, rfl, s1, paired_app r1 (hd c1), f, fun v c2 x t2 s2 r2 k => q v c2 x (t1.trans t2) s2 r2 k, fun cls d c2 a t2 s2 r2 k => hW cls d c2 σ sl a ((tb.trans t1).trans t2) s2 ((t1.trans t2).ss S) r2 k⟩
/-- a call without an exception, always the same -/
theorem ev_cal {F : DS} {W : WX} {dvs : List V} {ds : List AV} {ta : TA} {xs : List AV} (hd : ∀ c, Rvs K c dvs ds) (ha : Ea K ta sl st xs) (hf : F (xs ++ ds) st (fun y st' => y = x ∧ st' = st) (fun _ _ => False)) : Ev K (tCalW (spD K F) dvs W ta) sl st x := fun c σ e s S Q q =>
  ha c σ e s S _ fun vs c1 t1 s1 e1 r1 => ⟨c1, xs ++ ds, _, _, rfl, s1, paired_app r1 (hd c1), by rw [e1]; exact hf, fun v c2 y t2 s2 r2 k => by
    obtain ⟨k1, k2⟩ := k
    subst k1
    exact q v c2 (t1.trans t2) s2 k2 r2, fun cls d c2 a t2 s2 r2 k => False.elim k⟩
/-! ### statements -/
variable {e : DE} {ts tu' : TS}
theorem ws_seq (h : Ws K b ts sl st { e with nx := fun sl' st' => Ws K b tu' sl' st' e }) : Ws K b (tSeq ts tu') sl st e := fun b' hb D d c σ ec tb s S =>
  h b' hb { D with nx := tu' D } ⟨fun c1 σ1 sl1 t1 s1 S1 k => k b' hb D d c1 σ1 rfl t1 s1 S1, d.rt, d.bk, d.ct⟩ c σ ec tb s S
theorem ws_next (h : e.nx sl st) : Ws K b tNext sl st e := fun b' hb D d c σ ec tb s S => d.nx c σ sl tb s S (by rw [ec]; exact h)
theorem ws_brk (h : e.bk sl st) : Ws K b tBreak sl st e := fun b' hb D d c σ ec tb s S => d.bk c σ sl tb s S (by rw [ec]; exact h)
theorem ws_cont (h : e.ct sl st) : Ws K b tCont sl st e := fun b' hb D d c σ ec tb s S => d.ct c σ sl tb s S (by rw [ec]; exact h)
theorem ws_ret (h : Wx K b te sl st e.rt) : Ws K b (tRet te) sl st e := fun b' hb D d c σ ec tb s S => h c σ ec (hb.trans tb) s S D.rt fun v c1 x t1 s1 r1 k => d.rt c1 v x (tb.trans t1) s1 r1 k
theorem ws_retN (h : e.rt (.d .none) st) : Ws K b tRetN sl st e := fun b' hb D d c σ ec tb s S => d.rt c .non (.d .none) tb s .non (by rw [ec]; exact h)
theorem ws_asg {i : Nat} (h : Wx K b te sl st fun x st1 => e.nx (sl.set i (some x)) st1) : Ws K b (tAsg te (gName i)) sl st e := fun b' hb D d c σ ec tb s S => h c σ ec (hb.trans tb) s S _ fun v c1 x t1 s1 r1 k => d.nx c1 _ _ (tb.trans t1) s1 ((t1.ss S).set r1) k
theorem ws_drop (h : Wx K b te sl st fun x st1 => e.nx sl st1) : Ws K b (tDrop te) sl st e := fun b' hb D d c σ ec tb s S => h c σ ec (hb.trans tb) s S _ fun v c1 x t1 s1 r1 k => d.nx c1 _ _ (tb.trans t1) s1 (t1.ss S) k
theorem ws_if {tt : TT} (h : Wt K b tt sl st fun r st1 => if r = true then Ws K b ts sl st1 e else Ws K b tu' sl st1 e) : Ws K b (tIfS tt ts tu') sl st e := fun b' hb D d c σ ec tb s S => h c σ ec (hb.trans tb) s S _ fun r c1 t1 s1 h1 => by
  cases r with
  | true =>
    rw [if_pos rfl] at h1 ⊢
    exact h1 b' hb D d c1 σ rfl (tb.trans t1) s1 (t1.ss S)
  | false =>
    rw [if_neg (by decide)] at h1 ⊢
    exact h1 b' hb D d c1 σ rfl (tb.trans t1) s1 (t1.ss S)
theorem Ws.mono {e' : DE} (h : Ws K b ts sl st e') (k1 : ∀ sl st, e'.nx sl st → e.nx sl st) (k2 : ∀ x st, e'.rt x st → e.rt x st) (k3 : ∀ sl st, e'.bk sl st → e.bk sl st) (k4 : ∀ sl st, e'.ct sl st → e.ct sl st) : Ws K b ts sl st e := fun b' hb D d c σ ec tb s S =>
  h b' hb D ⟨fun c σ sl t s S k => d.nx c σ sl t s S (k1 _ _ k), fun c v x t s r k => d.rt c v x t s r (k2 _ _ k), fun c σ sl t s S k => d.bk c σ sl t s S (k3 _ _ k), fun c σ sl t s S k => d.ct c σ sl t s S (k4 _ _ k)⟩ c σ ec tb s S
/-- a named list becomes data, ahead of a statement -/
theorem ws_kill {i j : Nat} {ds : List PyData} (hj : sl[j]? = some (some (.o i))) (hi : st[i]? = some (.lst (ds.map AV.d))) (h : Ws K b ts (sl.set j (some (.d (.list ds)))) (st.set i .dead) e) : Ws K b ts sl st e := fun b' hb D d c σ ec tb s S => by
  subst ec
  obtain ⟨v, h1, a, ia, hv⟩ := S.2 j _ hj
  subst hv
  have := h b' hb D d (c.kill i) σ rfl (tb.trans tr_kill) (sr_kill s) ?_
  · exact this
  · have S2 := ((tr_kill (i := i)).ss S).set (i := j) (kill_rv s ia hi)
    have e3 : σ.set j (some (.ref a)) = σ := by
      obtain ⟨hl, q⟩ := List.getElem?_eq_some_iff.mp h1
      rw [← q]; exact List.set_getElem_self hl
    rw [e3] at S2
    exact S2
end
end AL

set_option Elab.async false
set_option linter.all false
set_option maxRecDepth 100000
set_option maxHeartbeats 4000000
/-! AL5: operations on data. -/
namespace AL
open PySem PySem.Spec PyProof.Rows L2
abbrev S (l : List Nat) : Str := ⟨l.toArray⟩
abbrev dS (z : Str) : AV := .d (.str z)
abbrev dI (i : Int) : AV := .d (.int i)
abbrev dB (b : Bool) : AV := .d (.bool b)
abbrev dT (xs : List PyData) : AV := .d (.tuple xs)
abbrev dL (xs : List PyData) : AV := .d (.list xs)
abbrev dN : AV := .d .none
section
variable {K : PySem.W.Frag} {c : Cf} {st : Sto}
theorem rv_s {v : V} {z : Str} (r : Rv K c v (dS z)) : v = .str z := by cases r; rfl
theorem rv_i {v : V} {i : Int} (r : Rv K c v (dI i)) : v = .int i := by cases r; rfl
theorem rv_b {v : V} {i : Bool} (r : Rv K c v (dB i)) : v = .bl i := by cases r; rfl
theorem rv_n {v : V} (r : Rv K c v dN) : v = .non := by cases r; rfl
theorem rv_l {v : V} {ds : List PyData} (r : Rv K c v (dL ds)) : ∃ a xs, v = .ref a ∧ c.hp a = some (.lst xs) ∧ DtA K c.Alive c.hp xs ds := by
  cases r with
  | lst m e a => exact ⟨_, _, rfl, e, a⟩
theorem rv_t {v : V} {ds : List PyData} (r : Rv K c v (dT ds)) : ∃ a xs, v = .ref a ∧ SqT K c.hp a xs ∧ DtA K c.Alive c.hp xs ds := by
  cases r with
  | tup m e a => exact ⟨_, _, rfl, Or.inl (Or.inl e), a⟩
  | tupK e a => exact ⟨_, _, rfl, e _, a⟩
/-! ### two-place operations -/
theorem o_I {f : Int → Int → Int} {i j : Int} : Op K (rI0 fun i j => .int (f i j)) (dI i) (dI j) st (dI (f i j)) := fun c v w e s r1 r2 Q q =>
  ⟨i, j, rv_i r1, rv_i r2, q _ c (Tr.refl c) s e (.int _)⟩
theorem o_Ib {f : Int → Int → Bool} {i j : Int} : Op K (rI0 fun i j => .bl (f i j)) (dI i) (dI j) st (dB (f i j)) := fun c v w e s r1 r2 Q q =>
  ⟨i, j, rv_i r1, rv_i r2, q _ c (Tr.refl c) s e (.bl _)⟩
theorem o_IC {C : Int → Int → Prop} {f : Int → Int → Int} {i j : Int} (h : C i j) : Op K (rI C fun i j => .int (f i j)) (dI i) (dI j) st (dI (f i j)) := fun c v w e s r1 r2 Q q =>
  ⟨i, j, rv_i r1, rv_i r2, h, q _ c (Tr.refl c) s e (.int _)⟩
/-- + of ints, texts, lists, tuples -/
def rCatS' : R2 := fun x y H Q => ∃ i j, x = .str i ∧ y = .str j ∧ i.length + j.length ≤ sizeLine ∧ Q (.str (i ++ j)) H
def rADD (K : PySem.W.Frag) : R2 := fun x y H Q => (rI0 fun i j => .int (i + j)) x y H Q ∨ rCatS' x y H Q ∨ rCatA K x y H Q ∨ rCat x y H Q
theorem op_ADD {X : Cx} : OpR X (binaryOp .Add) (rADD X.K) := op_add.or (op_add_str.or (op_catA.or op_cat))
theorem o_addI {i j : Int} : Op K (rADD K) (dI i) (dI j) st (dI (i + j)) := fun c v w e s r1 r2 Q q => Or.inl (o_I (f := (· + ·)) c v w e s r1 r2 Q q)
theorem o_addS {x y : Str} (h : x.length + y.length ≤ 10000000) : Op K (rADD K) (dS x) (dS y) st (dS (x ++ y)) := fun c v w e s r1 r2 Q q =>
  Or.inr (Or.inl ⟨x, y, rv_s r1, rv_s r2, Nat.le_trans h (by decide), q _ c (Tr.refl c) s e (.str _)⟩)
theorem o_addT {xs ys : List PyData} (h : xs.length + ys.length ≤ 10000000) : Op K (rADD K) (dT xs) (dT ys) st (dT (xs ++ ys)) := fun c v w e s r1 r2 Q q => by
  obtain ⟨a, us, rfl, h1, d1⟩ := rv_t r1
  obtain ⟨a', ws, rfl, h2, d2⟩ := rv_t r2
  refine Or.inr (Or.inr (Or.inl ⟨a, a', us, ws, rfl, rfl, h1, h2, Nat.le_trans (by rw [d1.len, d2.len]; exact h) (by decide), fun h => ?_, fun _ h => ?_, fun _ _ p hp => ?_⟩))
  · subst h
    cases d1
    exact q _ c (Tr.refl c) s e r2
  · subst h
    cases d2
    rw [List.append_nil] at q
    exact q _ c (Tr.refl c) s e r1
  · obtain ⟨t2, s2, n2⟩ := tr_new (o := .tup (us ++ ws)) s hp
    exact q _ _ t2 s2 e (.tup n2 upd_same (DtA.mono t2.keep _ _ (d1.app d2)))
theorem o_addL {xs ys : List PyData} (h : xs.length + ys.length ≤ 10000000) : Op K (rADD K) (dL xs) (dL ys) st (dL (xs ++ ys)) := fun c v w e s r1 r2 Q q => by
  obtain ⟨a, us, rfl, h1, d1⟩ := rv_l r1
  obtain ⟨a', ws, rfl, h2, d2⟩ := rv_l r2
  refine Or.inr (Or.inr (Or.inr ⟨a, a', us, ws, rfl, rfl, h1, h2, Nat.le_trans (by rw [d1.len, d2.len]; exact h) (by decide), fun p hp => ?_⟩))
  obtain ⟨t2, s2, n2⟩ := tr_new (o := .lst (us ++ ws)) s hp
  exact q _ _ t2 s2 e (.lst n2 upd_same (DtA.mono t2.keep _ _ (d1.app d2)))
/-! == and != of data -/
theorem o_eq {x y : PyData} (hx : SeqAt.shaped x = true) (hy : SeqAt.shaped y = true) : Op K (rEqD K) (.d x) (.d y) st (dB (PyData.eqv x y)) := fun c v w e s r1 r2 Q q =>
  ⟨x, y, Dt.dp _ _ r1, Dt.dp _ _ r2, hx, hy, q _ c (Tr.refl c) s e (.bl _)⟩
theorem o_ne {x y : PyData} (hx : SeqAt.shaped x = true) (hy : SeqAt.shaped y = true) : Op K (rNeD K) (.d x) (.d y) st (dB (!PyData.eqv x y)) := fun c v w e s r1 r2 Q q =>
  ⟨x, y, Dt.dp _ _ r1, Dt.dp _ _ r2, hx, hy, q _ c (Tr.refl c) s e (.bl _)⟩
def isNone : PyData → Bool
  | .none => true
  | _ => false
theorem o_isN {x : PyData} : Op K rIsN (.d x) dN st (dB (isNone x)) := fun c v w e s r1 r2 Q q => ⟨rv_n r2, by
  have : (decide (v = V.non)) = isNone x := by
    cases r1 <;> simp [isNone]
  rw [this]
  exact q _ c (Tr.refl c) s e (.bl _)⟩
theorem o_notN {x : PyData} : Op K rNotN (.d x) dN st (dB (!isNone x)) := fun c v w e s r1 r2 Q q => ⟨rv_n r2, by
  have : (decide (v = V.non)) = isNone x := by
    cases r1 <;> simp [isNone]
  rw [this]
  exact q _ c (Tr.refl c) s e (.bl _)⟩
/-! in, not in: a sign in a text -/
theorem o_inS {k : Nat} {z : Str} : Op K rInS (dS (S [k])) (dS z) st (dB (decide (k ∈ z.cps.toList))) := fun c v w e s r1 r2 Q q => ⟨k, z, rv_s r1, rv_s r2, q _ c (Tr.refl c) s e (.bl _)⟩
theorem o_notInS {k : Nat} {z : Str} : Op K rNotInS (dS (S [k])) (dS z) st (dB (!decide (k ∈ z.cps.toList))) := fun c v w e s r1 r2 Q q => ⟨k, z, rv_s r1, rv_s r2, q _ c (Tr.refl c) s e (.bl _)⟩
/-! items -/
theorem o_ixL {xs : List PyData} {i : Int} {x : PyData} (h : atI xs i = some x) : Op K (rIx K) (dL xs) (dI i) st (.d x) := fun c v w e s r1 r2 Q q => by
  obtain ⟨a, us, rfl, h1, d1⟩ := rv_l r1
  have hl := d1.len
  unfold atI at h
  cases hj : ixN xs.length i with
  | none => rw [hj] at h; cases h
  | some j =>
    rw [hj] at h
    obtain ⟨u, hu, du⟩ := d1.get j x h
    exact Or.inl ⟨a, us, i, u, rfl, rv_i r2, Or.inl (Or.inl h1), by unfold atI; rw [hl, hj]; exact hu, q _ c (Tr.refl c) s e du⟩
theorem o_ixT {xs : List PyData} {i : Int} {x : PyData} (h : atI xs i = some x) : Op K (rIx K) (dT xs) (dI i) st (.d x) := fun c v w e s r1 r2 Q q => by
  obtain ⟨a, us, rfl, h1, d1⟩ := rv_t r1
  have hl := d1.len
  unfold atI at h
  cases hj : ixN xs.length i with
  | none => rw [hj] at h; cases h
  | some j =>
    rw [hj] at h
    obtain ⟨u, hu, du⟩ := d1.get j x h
    exact Or.inr (Or.inl ⟨a, us, i, u, rfl, rv_i r2, h1, by unfold atI; rw [hl, hj]; exact hu, q _ c (Tr.refl c) s e du⟩)
theorem o_ixS {z : Str} {i : Int} {k : Nat} (hl : z.length ≤ 10000000) (h : atI z.cps.toList i = some k) : Op K (rIx K) (dS z) (dI i) st (dS (S [k])) := fun c v w e s r1 r2 Q q =>
  Or.inr (Or.inr ⟨z, i, k, rv_s r1, rv_i r2, Nat.le_trans hl (by decide), h, q _ c (Tr.refl c) s e (.str _)⟩)
/-- an item of a named list -/
theorem o_ixO {n : Nat} {xs : List AV} {i : Int} {x : AV} (hn : st[n]? = some (.lst xs)) (h : atI xs i = some x) : Op K (rIx K) (.o n) (dI i) st x := fun c v w e s r1 r2 Q q => by
  obtain ⟨a, ia, rfl⟩ := r1
  obtain ⟨us, h1, d1⟩ := s.ob n a _ ia (by rw [e]; exact hn)
  have hl : us.length = xs.length := d1.length
  unfold atI at h
  cases hj : ixN xs.length i with
  | none => rw [hj] at h; cases h
  | some j =>
    rw [hj] at h
    have g : ∀ {us : List V} {xs : List AV} (j : Nat), Rvs K c us xs → xs[j]? = some x → ∃ u, us[j]? = some u ∧ Rv K c u x := by
      intro us xs j r
      induction r generalizing j with
      | nil => intro h; cases h
      | cons r _ ih =>
        intro h
        cases j with
        | zero => cases h; exact ⟨_, rfl, r⟩
        | succ j => exact ih j h
    obtain ⟨u, hu, du⟩ := g j d1 h
    exact Or.inl ⟨a, us, i, u, rfl, rv_i r2, Or.inl (Or.inl h1), by unfold atI; rw [hl, hj]; exact hu, q _ c (Tr.refl c) s e du⟩
/-! slices -/
def rSL (K : PySem.W.Frag) : V → Option Int → Option Int → Hp → VK → Prop := fun x lo hi H Q => rSlL K x lo hi H Q ∨ rSlA K x lo hi H Q ∨ C8.rSlX x lo hi H Q
theorem sl_SL {X : Cx} : SlR X (rSL X.K) := sl_list.or (sl_tupA.or C8.sl_txt)
def Os (K : PySem.W.Frag) (r : V → Option Int → Option Int → Hp → VK → Prop) (x : AV) (lo hi : Option Int) (st : Sto) (z : AV) : Prop := ∀ (c : Cf) (v : V), c.st = st → SR K c → Rv K c v x → ∀ Q : VK, (∀ u c', Tr c c' → SR K c' → c'.st = st → Rv K c' u z → Q u c'.hp) → r v lo hi c.hp Q
def cutD (xs : List PyData) (lo hi : Option Int) : List PyData := (xs.drop (HT.sIx xs.length 0 lo)).take (HT.sIx xs.length xs.length hi - HT.sIx xs.length 0 lo)
theorem DtA.cut {M : Addr → Prop} {H : Hp} {us : List V} {xs : List PyData} {lo hi : Option Int} (h : DtA K M H us xs) : DtA K M H (cutV us lo hi) (cutD xs lo hi) := by
  unfold cutV cutD
  rw [h.len]
  exact (h.drop _).take _
theorem o_slL {xs : List PyData} {lo hi : Option Int} : Os K (rSL K) (dL xs) lo hi st (dL (cutD xs lo hi)) := fun c v e s r1 Q q => by
  obtain ⟨a, us, rfl, h1, d1⟩ := rv_l r1
  refine Or.inl ⟨a, us, rfl, Or.inl (Or.inl h1), fun p hp => ?_⟩
  obtain ⟨t2, s2, n2⟩ := tr_new (o := .lst (cutV us lo hi)) s hp
  exact q _ _ t2 s2 e (.lst n2 upd_same (DtA.mono t2.keep _ _ d1.cut))
theorem o_slT {xs : List PyData} {lo hi : Option Int} : Os K (rSL K) (dT xs) lo hi st (dT (cutD xs lo hi)) := fun c v e s r1 Q q => by
  obtain ⟨a, us, rfl, h1, d1⟩ := rv_t r1
  refine Or.inr (Or.inl ⟨a, us, rfl, h1, fun h => ?_, fun _ p hp => ?_⟩)
  · refine q _ c (Tr.refl c) s e ?_
    have : cutD xs lo hi = xs := by
      unfold cutD
      rw [d1.len] at h
      rw [h.1, h.2, List.drop_zero, Nat.sub_zero, List.take_length]
    rw [this]
    exact r1
  · obtain ⟨t2, s2, n2⟩ := tr_new (o := .tup (cutV us lo hi)) s hp
    exact q _ _ t2 s2 e (.tup n2 upd_same (DtA.mono t2.keep _ _ d1.cut))
theorem o_slS {z : Str} {lo hi : Option Int} (hl : z.length ≤ 10000000) : Os K (rSL K) (dS z) lo hi st (dS (Txt.slice z lo hi)) := fun c v e s r1 Q q =>
  Or.inr (Or.inr ⟨z, rv_s r1, Nat.le_trans hl (by decide), q _ c (Tr.refl c) s e (.str _)⟩)
theorem ev_sl {sl : Sl} {te : TE} {tl th : TO} {r : V → Option Int → Option Int → Hp → VK → Prop} {x z : AV} {lo hi : Option Int} (h : Ev K te sl st x) (h1 : Eo K tl sl st lo) (h2 : Eo K th sl st hi) (hr : Os K r x lo hi st z) : Ev K (tSl r te tl th) sl st z := fun c σ e s S Q q =>
  h c σ e s S _ fun v c1 t1 s1 e1 r1 => h1 c1 σ e1 s1 (t1.ss S) _ fun c2 t2 s2 e2 => h2 c2 σ e2 s2 ((t1.trans t2).ss S) _ fun c3 t3 s3 e3 => hr c3 v e3 s3 ((t2.trans t3).rv r1) Q fun u c4 t4 s4 e4 r4 => q u c4 (((t1.trans t2).trans t3).trans t4) s4 e4 r4
theorem eo_none {sl : Sl} : Eo K tNoPart sl st none := fun c σ e s S Q q => q c (Tr.refl c) s e
theorem eo_some {sl : Sl} {te : TE} {i : Int} (h : Ev K te sl st (dI i)) : Eo K (tPart te) sl st (some i) := fun c σ e s S Q q => h c σ e s S _ fun v c1 t1 s1 e1 r1 => ⟨i, rv_i r1, q c1 t1 s1 e1⟩
/-! ### calls of built-ins -/
theorem rvs1 {vs : List V} {x : AV} (r : Rvs K c vs [x]) : ∃ v, vs = [v] ∧ Rv K c v x := by
  cases r with
  | cons r t => cases t; exact ⟨_, rfl, r⟩
theorem rvs2 {vs : List V} {x y : AV} (r : Rvs K c vs [x, y]) : ∃ v w, vs = [v, w] ∧ Rv K c v x ∧ Rv K c w y := by
  cases r with
  | cons r t =>
    obtain ⟨w, rfl, q⟩ := rvs1 t
    exact ⟨_, _, rfl, r, q⟩
abbrev rLEN (K : PySem.W.Frag) : List V → Hp → VK → Prop := fun xs H Q => ∃ x n, xs = [x] ∧ LenV K x H n ∧ Q (.int n) H
theorem o_lenS {z : Str} (h : z.length ≤ 10000000) : Oc K (rLEN K) [dS z] st (dI z.length) := fun c vs e s r Q q => by
  obtain ⟨v, rfl, r0⟩ := rvs1 r
  exact ⟨v, z.length, rfl, by rw [rv_s r0]; exact ⟨Nat.le_trans h (by decide), rfl⟩, q _ c (Tr.refl c) s e (.int _)⟩
theorem o_lenL {xs : List PyData} : Oc K (rLEN K) [dL xs] st (dI xs.length) := fun c vs e s r Q q => by
  obtain ⟨v, rfl, r0⟩ := rvs1 r
  obtain ⟨a, us, rfl, h1, d1⟩ := rv_l r0
  exact ⟨_, xs.length, rfl, Or.inl ⟨us, Or.inl (Or.inl h1), d1.len.symm⟩, q _ c (Tr.refl c) s e (.int _)⟩
theorem o_lenT {xs : List PyData} : Oc K (rLEN K) [dT xs] st (dI xs.length) := fun c vs e s r Q q => by
  obtain ⟨v, rfl, r0⟩ := rvs1 r
  obtain ⟨a, us, rfl, h1, d1⟩ := rv_t r0
  exact ⟨_, xs.length, rfl, Or.inr ⟨us, h1, d1.len.symm⟩, q _ c (Tr.refl c) s e (.int _)⟩
theorem o_lenO {n : Nat} {xs : List AV} (hn : st[n]? = some (.lst xs)) : Oc K (rLEN K) [.o n] st (dI xs.length) := fun c vs e s r Q q => by
  obtain ⟨v, rfl, a, ia, rfl⟩ := rvs1 r
  obtain ⟨us, h1, d1⟩ := s.ob n a _ ia (by rw [e]; exact hn)
  exact ⟨_, xs.length, rfl, Or.inl ⟨us, Or.inl (Or.inl h1), d1.length.symm⟩, q _ c (Tr.refl c) s e (.int _)⟩
/-- isinstance with a built-in type -/
def tyD : PyData → String
  | .none => "NoneType"
  | .bool _ => "bool"
  | .int _ => "int"
  | .str _ => "str"
  | .list _ => "list"
  | .tuple _ => "tuple"
  | .dict _ => "dict"
theorem ty_rv {v : V} : ∀ {x : PyData}, Rv K c v (.d x) → TyX K c.hp v (.type (tyD x))
  | .none, r => by cases r; exact .base .non
  | .bool b, r => by cases r; exact .base (.bl b)
  | .int i, r => by cases r; exact .base (.int i)
  | .str z, r => by cases r; exact .base (.str z)
  | .list _, r => by cases r with | lst _ e _ => exact .base (.lst e)
  | .tuple _, r => by
    cases r with
    | tup _ e _ => exact .base (.tup e)
    | tupK e _ =>
      rcases e (fun _ => none) with h | ⟨o, its, n, h1, h2, _⟩
      · rcases h with h | ⟨_, h⟩ <;> cases h
      · exact .kTuple h1 h2
  | .dict _, r => by cases r
theorem o_is {x : PyData} {T : String} {b : Bool} (h : kitB (tyD x) T = some b) : Oc K (rIs K) [.d x, .raw (.ty T)] st (dB b) := fun c vs e s r Q q => by
  obtain ⟨v, w, rfl, r1, r2⟩ := rvs2 r
  cases r2
  exact ⟨v, tyD x, T, b, rfl, ty_rv r1, h, q _ c (Tr.refl c) s e (.bl _)⟩
/-- all, any of a list of bools -/
theorem o_all {xs : List Bool} : Oc K (rAll K) [dL (xs.map PyData.bool)] st (dB (xs.all id)) := fun c vs e s r Q q => by
  obtain ⟨v, rfl, r0⟩ := rvs1 r
  obtain ⟨a, us, rfl, h1, d1⟩ := rv_l r0
  have := d1.bls
  subst this
  exact ⟨a, xs, rfl, Or.inl (Or.inl h1), q _ c (Tr.refl c) s e (.bl _)⟩
theorem o_any {xs : List Bool} : Oc K (rAny K) [dL (xs.map PyData.bool)] st (dB (xs.any id)) := fun c vs e s r Q q => by
  obtain ⟨v, rfl, r0⟩ := rvs1 r
  obtain ⟨a, us, rfl, h1, d1⟩ := rv_l r0
  have := d1.bls
  subst this
  exact ⟨a, xs, rfl, Or.inl (Or.inl h1), q _ c (Tr.refl c) s e (.bl _)⟩
/-- tuple(list), tuple(tuple) -/
def rTUP (K : PySem.W.Frag) : List V → Hp → VK → Prop := fun xs H Q => ∃ p ys, xs = [.ref p] ∧ ((SqL K H p ys ∧ ∀ l, H l = none → Q (.ref l) (upd H l (.tup ys))) ∨ (SqT K H p ys ∧ Q (.ref p) H))
theorem o_tupL {xs : List PyData} : Oc K (rTUP K) [dL xs] st (dT xs) := fun c vs e s r Q q => by
  obtain ⟨v, rfl, r0⟩ := rvs1 r
  obtain ⟨a, us, rfl, h1, d1⟩ := rv_l r0
  refine ⟨a, us, rfl, Or.inl ⟨Or.inl (Or.inl h1), fun p hp => ?_⟩⟩
  obtain ⟨t2, s2, n2⟩ := tr_new (o := .tup us) s hp
  exact q _ _ t2 s2 e (.tup n2 upd_same (DtA.mono t2.keep _ _ d1))
theorem o_tupT {xs : List PyData} : Oc K (rTUP K) [dT xs] st (dT xs) := fun c vs e s r Q q => by
  obtain ⟨v, rfl, r0⟩ := rvs1 r
  obtain ⟨a, us, rfl, h1, d1⟩ := rv_t r0
  exact ⟨a, us, rfl, Or.inr ⟨h1, q _ c (Tr.refl c) s e r0⟩⟩
/-- str(int), str(str) -/
abbrev rSTR : List V → Hp → VK → Prop := fun xs H Q => ∃ i : Int, xs = [.int i] ∧ i.natAbs.log2 < 1920 ∧ Q (.str (toString i)) H
theorem o_strI {i : Int} (h : i.natAbs.log2 < 1920) : Oc K rSTR [dI i] st (dS (toString i)) := fun c vs e s r Q q => by
  obtain ⟨v, rfl, r0⟩ := rvs1 r
  cases rv_i r0
  exact ⟨i, rfl, h, q _ c (Tr.refl c) s e (.str _)⟩
/-- int(int), int(bool), int(text) -/
def rINT : List V → Hp → VK → Prop := fun xs H Q => ((∃ i, xs = [.int i] ∧ Q (.int i) H) ∨ ∃ k, xs = [.bl k] ∧ Q (.int (if k then 1 else 0)) H) ∨ ∃ a n, xs = [.str a] ∧ PySem.intText? a = some n ∧ a.length ≤ 640 ∧ Q (.int n) H
theorem call_INT {X : Cx} : CallR X (.type "int") rINT := call_int1.or call_int_str
theorem o_intS {z : Str} {n : Int} (h : PySem.intText? z = some n) (hl : z.length ≤ 640) : Oc K rINT [dS z] st (dI n) := fun c vs e s r Q q => by
  obtain ⟨v, rfl, r0⟩ := rvs1 r
  cases rv_s r0
  exact Or.inr ⟨z, n, rfl, h, hl, q _ c (Tr.refl c) s e (.int _)⟩
theorem o_intB {k : Bool} : Oc K rINT [dB k] st (dI (if k then 1 else 0)) := fun c vs e s r Q q => by
  obtain ⟨v, rfl, r0⟩ := rvs1 r
  cases rv_b r0
  exact Or.inl (Or.inr ⟨k, rfl, q _ c (Tr.refl c) s e (.int _)⟩)
/-! ### methods of texts -/
theorem o_m1 {r : V → List V → Hp → VK → Prop} {a b : Str} {z : AV} (h : ∀ (c : Cf), c.st = st → SR K c → ∀ Q : VK, (∀ u c', Tr c c' → SR K c' → c'.st = st → Rv K c' u z → Q u c'.hp) → r (.str a) [.str b] c.hp Q) : Om K "str" r (dS a) [dS b] st z := fun c v e s r1 => by
  cases rv_s r1
  refine ⟨rfl, fun c1 vs t1 s1 e1 r2 Q q => ?_⟩
  obtain ⟨v, rfl, r3⟩ := rvs1 r2
  cases rv_s r3
  exact h c1 e1 s1 Q q
abbrev rSPLIT : V → List V → Hp → VK → Prop := fun x xs H Q => ∃ a b, x = .str a ∧ xs = [.str b] ∧ (b.length == 0) = false ∧ a.length + 2 ≤ sizeLine ∧ rNewStrs (Txt.split a b) H Q
theorem o_split {a b : Str} (hb : (b.length == 0) = false) (hl : a.length ≤ 10000000) : Om K "str" rSPLIT (dS a) [dS b] st (dL ((Txt.split a b).map PyData.str)) := o_m1 fun c e s Q q =>
  ⟨a, b, rfl, rfl, hb, Nat.le_trans (Nat.add_le_add_right hl 2) (by decide), fun p hp => by
    obtain ⟨t2, s2, n2⟩ := tr_new (o := .lst ((Txt.split a b).map V.str)) s hp
    exact q _ _ t2 s2 e (.lst n2 upd_same (DtA.ofStrs _))⟩
abbrev rSTARTS : V → List V → Hp → VK → Prop := fun x xs H Q => ∃ a b, x = .str a ∧ xs = [.str b] ∧ Q (.bl (Txt.startswith a b)) H
theorem o_starts {a b : Str} : Om K "str" rSTARTS (dS a) [dS b] st (dB (Txt.startswith a b)) := o_m1 fun c e s Q q => ⟨a, b, rfl, rfl, q _ c (Tr.refl c) s e (.bl _)⟩
abbrev rJOIN (K : PySem.W.Frag) : V → List V → Hp → VK → Prop := fun x xs H Q => ∃ a p, ∃ ys : List Str, x = .str a ∧ xs = [.ref p] ∧ (SqL K H p (ys.map V.str) ∨ SqT K H p (ys.map V.str)) ∧
    (ys.map (·.length)).sum + ys.length * a.length ≤ 16777216 ∧ Q (.str (Txt.join a ys)) H
theorem o_joinL {a : Str} {ys : List Str} (hz : (ys.map (·.length)).sum + ys.length * a.length ≤ 10000000) : Om K "str" (rJOIN K) (dS a) [dL (ys.map PyData.str)] st (dS (Txt.join a ys)) := fun c v e s r1 => by
  cases rv_s r1
  refine ⟨rfl, fun c1 vs t1 s1 e1 r2 Q q => ?_⟩
  obtain ⟨v, rfl, r3⟩ := rvs1 r2
  obtain ⟨p, us, rfl, h1, d1⟩ := rv_l r3
  have := d1.strs
  subst this
  exact ⟨a, p, ys, rfl, rfl, Or.inl (Or.inl (Or.inl h1)), Nat.le_trans hz (by decide), q _ c1 (Tr.refl c1) s1 e1 (.str _)⟩
theorem o_joinT {a : Str} {ys : List Str} (hz : (ys.map (·.length)).sum + ys.length * a.length ≤ 10000000) : Om K "str" (rJOIN K) (dS a) [dT (ys.map PyData.str)] st (dS (Txt.join a ys)) := fun c v e s r1 => by
  cases rv_s r1
  refine ⟨rfl, fun c1 vs t1 s1 e1 r2 Q q => ?_⟩
  obtain ⟨v, rfl, r3⟩ := rvs1 r2
  obtain ⟨p, us, rfl, h1, d1⟩ := rv_t r3
  have := d1.strs
  subst this
  exact ⟨a, p, ys, rfl, rfl, Or.inr h1, Nat.le_trans hz (by decide), q _ c1 (Tr.refl c1) s1 e1 (.str _)⟩
end
end AL

set_option Elab.async false
set_option linter.all false
set_option maxRecDepth 100000
set_option maxHeartbeats 4000000
/-! AL6: what a loop walks, comprehensions, loops, defs. -/
namespace AL
open PySem PySem.Spec PyProof.Rows L2
/-- later, more may be hidden -/
structure Up (c c' : Cf) : Prop where
  pre : ∃ l, c'.al = c.al ++ l
  keep : ∀ a o, ¬ c.Alive a → c.hp a = some o → ¬ c'.Alive a ∧ c'.hp a = some o
  dom : ∀ a, c'.hp a = none → c.hp a = none
theorem Tr.up {c c' : Cf} (t : Tr c c') : Up c c' := ⟨t.pre, t.keep, t.dom⟩
theorem Up.trans {a b c : Cf} (h : Up a b) (g : Up b c) : Up a c := by
  obtain ⟨l, e⟩ := h.pre
  obtain ⟨l', e'⟩ := g.pre
  exact ⟨⟨l ++ l', by rw [e', e, List.append_assoc]⟩, fun x o n q => g.keep x o (h.keep x o n q).1 (h.keep x o n q).2, fun x q => h.dom x (g.dom x q)⟩
theorem Up.rv {K : PySem.W.Frag} {c c' : Cf} (h : Up c c') {v : V} {x : AV} (r : Rv K c v x) : Rv K c' v x := by
  cases x with
  | d x => exact Dt.mono h.keep x v r
  | o i =>
    obtain ⟨a, e, q⟩ := r
    obtain ⟨l, z⟩ := h.pre
    exact ⟨a, by rw [z, List.getElem?_append_left (List.getElem?_eq_some_iff.mp e).1]; exact e, q⟩
  | raw u => exact r
  | p xs =>
    obtain ⟨a, us, e, n, q, t⟩ := r
    refine ⟨a, us, e, (h.keep a _ n q).1, (h.keep a _ n q).2, paired_imp (fun v x r => ?_) t⟩
    cases x with
    | d x => exact Dt.mono h.keep x v r
    | o i =>
      obtain ⟨a, e, q⟩ := r
      obtain ⟨l, z⟩ := h.pre
      exact ⟨a, by rw [z, List.getElem?_append_left (List.getElem?_eq_some_iff.mp e).1]; exact e, q⟩
    | raw u => exact r
theorem Up.ss {K : PySem.W.Frag} {c c' : Cf} {σ : L2.St} {sl : Sl} (h : Up c c') (s : SS K c σ sl) : SS K c' σ sl :=
  ⟨s.1, fun i x e => let ⟨v, p, q⟩ := s.2 i x e; ⟨v, p, h.rv q⟩⟩
section defs
variable (K : PySem.W.Frag)
structure Wk (c : Cf) (J : It) (xs : List AV) : Prop where
  go : ∀ c2 i, Up c c2 → SR K c2 → i < xs.length → J.go i c2.hp
  stop : ∀ c2, Up c c2 → SR K c2 → J.stop xs.length c2.hp
  yld : ∀ c2 i x v H', Up c c2 → SR K c2 → xs[i]? = some x → J.yld i c2.hp v H' → ∃ c3, c3.hp = H' ∧ c3.st = c2.st ∧ Tr c2 c3 ∧ SR K c3 ∧ Rv K c3 v x
def Ei (wi : TI) (sl : Sl) (st : Sto) (xs : List AV) : Prop := ∀ (c : Cf) (σ : L2.St), c.st = st → SR K c → SS K c σ sl → ∀ R : It → Hp → Prop, (∀ J c', Tr c c' → SR K c' → c'.st = st → Wk K c' J xs → R J c'.hp) → wi σ c.hp R
def Wi (b : Cf) (wi : TI) (sl : Sl) (st : Sto) (Φ : List AV → Sto → Prop) : Prop := ∀ (c : Cf) (σ : L2.St), c.st = st → Tr b c → SR K c → SS K c σ sl → ∀ R : It → Hp → Prop, (∀ J c' xs, Tr c c' → SR K c' → Wk K c' J xs → Φ xs c'.st → R J c'.hp) → wi σ c.hp R
/-- a target takes x -/
def Eg (g : TG) (sl : Sl) (x : AV) (sl' : Sl) (js : List Nat) : Prop := ∀ (c : Cf) (σ : L2.St) (v : V), SR K c → SS K c σ sl → Rv K c v x → ∀ Q : L2.St → Hp → Prop, (∀ σ', SS K c σ' sl' → (∀ vs, (∀ j ∈ js, j ∈ vs) → wipe σ' vs = wipe σ vs) → Q σ' c.hp) → g v σ c.hp Q
def Egs (g : TGs) (sl : Sl) (xs : List AV) (sl' : Sl) (js : List Nat) : Prop := ∀ (c : Cf) (σ : L2.St) (vs : List V), SR K c → SS K c σ sl → Rvs K c vs xs → ∀ Q : L2.St → Hp → Prop, (∀ σ', SS K c σ' sl' → (∀ ws, (∀ j ∈ js, j ∈ ws) → wipe σ' ws = wipe σ ws) → Q σ' c.hp) → g vs σ c.hp Q
end defs
section
variable {K : PySem.W.Frag} {b : Cf} {sl sl' sl2 : Sl} {st : Sto} {te : TE} {x : AV}
theorem wipe_get {σ : L2.St} : ∀ {vs : List Nat} {i : Nat}, (wipe σ vs)[i]? = if i ∈ vs then (if i < σ.length then some none else none) else σ[i]?
  | [], i => by simp [wipe]
  | v :: vs, i => by
    unfold wipe
    by_cases h : v = i
    · subst h
      by_cases hl : v < σ.length
      · rw [List.getElem?_set_self (by rw [wipe_length]; exact hl)]
        simp [hl]
      · rw [List.getElem?_eq_none (by rw [List.length_set, wipe_length]; omega)]
        simp [hl]
    · rw [List.getElem?_set_ne h, wipe_get (vs := vs)]
      have : (i ∈ v :: vs) ↔ i ∈ vs := by simp [Ne.symm h]
      simp only [this]
theorem wipe_set {σ : L2.St} {vs : List Nat} {j : Nat} {y : Option V} (h : j ∈ vs) : wipe (σ.set j y) vs = wipe σ vs := by
  apply List.ext_getElem?
  intro i
  rw [wipe_get, wipe_get]
  by_cases hi : i ∈ vs
  · simp [hi]
  · have : j ≠ i := fun e => hi (e ▸ h)
    simp [hi, List.getElem?_set_ne this]
theorem wipe_wipe {σ : L2.St} {vs : List Nat} : wipe (wipe σ vs) vs = wipe σ vs := by
  apply List.ext_getElem?
  intro i
  rw [wipe_get, wipe_get, wipe_length]
  by_cases hi : i ∈ vs
  · simp [hi]
  · simp [hi, wipe_get]
/-- the slots of a block's own names forgotten -/
def wipeS (sl : Sl) : List Nat → Sl
  | [] => sl
  | v :: vs => (wipeS sl vs).set v none
theorem ss_wipe {c : Cf} {σ : L2.St} (S : SS K c σ sl) : ∀ vs : List Nat, SS K c (wipe σ vs) (wipeS sl vs)
  | [] => S
  | v :: vs => (ss_wipe S vs).forget
theorem eg_name {j : Nat} : Eg K (gName j) sl x (sl.set j (some x)) [j] := fun c σ v s S r Q q => q _ (S.set r) fun vs h => wipe_set (h j (List.mem_singleton.mpr rfl))
theorem egs_nil : Egs K gNil sl [] sl [] := fun c σ vs s S r Q q => by
  cases r
  exact ⟨rfl, q σ S fun _ _ => rfl⟩
theorem egs_cons {g : TG} {u : TGs} {xs : List AV} {js ks : List Nat} (h1 : Eg K g sl x sl2 js) (h2 : Egs K u sl2 xs sl' ks) : Egs K (gCons g u) sl (x :: xs) sl' (js ++ ks) := fun c σ vs s S r Q q => by
  cases r with
  | cons r t =>
    exact ⟨_, _, rfl, h1 c σ _ s S r _ fun σ1 S1 w1 => h2 c σ1 _ s S1 t Q fun σ2 S2 w2 => q σ2 S2 fun ws hw => (w2 ws fun j hj => hw j (List.mem_append_right _ hj)).trans (w1 ws fun j hj => hw j (List.mem_append_left _ hj))⟩
theorem eg_tup {n : Nat} {u : TGs} {ds : List PyData} {js : List Nat} (h : Egs K u sl (ds.map AV.d) sl' js) (hn : ds.length = n) : Eg K (gTup K n u) sl (dT ds) sl' js := fun c σ v s S r Q q => by
  obtain ⟨a, us, rfl, h1, d1⟩ := rv_t r
  exact ⟨a, us, rfl, h1, d1.len.trans hn, h c σ us s S (dta_rvs d1) Q q⟩
theorem eg_tupP {n : Nat} {u : TGs} {xs : List Lf} {js : List Nat} (h : Egs K u sl (xs.map Lf.av) sl' js) (hn : xs.length = n) : Eg K (gTup K n u) sl (.p xs) sl' js := fun c σ v s S r Q q => by
  obtain ⟨a, us, rfl, _, h1, t⟩ := r
  have hl : us.length = xs.length := t.length
  have g : ∀ {us : List V} {xs : List Lf}, Paired (RvL K c) us xs → Rvs K c us (xs.map Lf.av) := by
    intro us xs t
    induction t with
    | nil => exact .nil
    | cons r _ ih => exact .cons (rvL_rv r) ih
  exact ⟨a, us, rfl, Or.inl (Or.inl h1), hl.trans hn, h c σ us s S (g t) Q q⟩
/-! ### what is walked -/
theorem wi_of {wi : TI} {xs : List AV} {Φ : List AV → Sto → Prop} (h : Ei K wi sl st xs) (k : Φ xs st) : Wi K b wi sl st Φ := fun c σ e _ s S R q => h c σ e s S R fun J c' t s' e' w => q J c' xs t s' w (by rw [e']; exact k)
theorem walk_wk {c : Cf} {J : It} {xs : List AV} {ys : List V} {G : Hp → Prop} (w : Walk J ys.length G (YAt ys)) (hG : ∀ c2, Up c c2 → SR K c2 → G c2.hp) (r : Rvs K c ys xs) : Wk K c J xs := by
  have hl : ys.length = xs.length := r.length
  refine ⟨fun c2 i u s hi => w.goes i _ (by rw [hl]; exact hi) (hG c2 u s), fun c2 u s => by rw [← hl]; exact w.stops _ (hG c2 u s), fun c2 i x v H' u s hx hy => ?_⟩
  have hi : i < ys.length := by rw [hl]; exact (List.getElem?_eq_some_iff.mp hx).1
  obtain ⟨e1, e2⟩ := w.yields i _ v H' hi (hG c2 u s) hy
  refine ⟨c2, e1.symm, rfl, Tr.refl c2, s, u.rv ?_⟩
  have g : ∀ {us : List V} {xs : List AV} (j : Nat), Rvs K c us xs → us[j]? = some v → xs[j]? = some x → Rv K c v x := by
    intro us xs j r
    induction r generalizing j with
    | nil => intro h; cases h
    | cons r _ ih =>
      intro h h'
      cases j with
      | zero => cases h; cases h'; exact r
      | succ j => exact ih j h h'
  exact g i r e2 hx
theorem ei_list {tl : TE} {ds : List PyData} (h : Ev K tl sl st (dL ds)) : Ei K (iList K tl) sl st (ds.map AV.d) := fun c σ e s S R q => h c σ e s S _ fun v c1 t1 s1 e1 r1 => by
  cases r1 with
  | @lst a us _ m ea d1 => exact ⟨a, rfl, ⟨us, Or.inl (Or.inl ea)⟩, q _ c1 t1 s1 e1 (walk_wk walk_list (fun c2 u _ => Or.inl (Or.inl (u.keep _ _ m ea).2)) (dta_rvs d1))⟩
theorem ei_tup {tl : TE} {ds : List PyData} (h : Ev K tl sl st (dT ds)) : Ei K (iTup K tl) sl st (ds.map AV.d) := fun c σ e s S R q => h c σ e s S _ fun v c1 t1 s1 e1 r1 => by
  cases r1 with
  | @tup a us _ m ea d1 => exact ⟨a, rfl, ⟨us, Or.inl (Or.inl ea)⟩, q _ c1 t1 s1 e1 (walk_wk walk_tup (fun c2 u _ => Or.inl (Or.inl (u.keep _ _ m ea).2)) (dta_rvs d1))⟩
  | @tupK a us _ ea d1 => exact ⟨a, rfl, ⟨us, ea _⟩, q _ c1 t1 s1 e1 (walk_wk walk_tup (fun c2 u _ => ea _) (dta_rvs d1))⟩
theorem wi_list {tl : TE} {Φ : List AV → Sto → Prop} (h : Wx K b tl sl st fun x st1 => ∃ ds, x = dL ds ∧ Φ (ds.map AV.d) st1) : Wi K b (iList K tl) sl st Φ := fun c σ e tb s S R q => h c σ e tb s S _ fun v c1 x t1 s1 r1 ⟨ds, e2, k⟩ => by
  subst e2
  cases r1 with
  | @lst a us _ m ea d1 => exact ⟨a, rfl, ⟨us, Or.inl (Or.inl ea)⟩, q _ c1 _ t1 s1 (walk_wk walk_list (fun c2 u _ => Or.inl (Or.inl (u.keep _ _ m ea).2)) (dta_rvs d1)) k⟩
/-- a list or a tuple or a text -/
def iAny (K : PySem.W.Frag) (te : TE) : TI := fun σ H R => te σ H fun x H1 => (∃ a, x = .ref a ∧ (∃ xs, SqL K H1 a xs) ∧ R (Itl K a) H1) ∨ (∃ a, x = .ref a ∧ (∃ xs, SqT K H1 a xs) ∧ R (Itt K a) H1) ∨ (∃ z, x = .str z ∧ R (Its z) H1)
theorem ei_str {te : TE} {z : Str} (h : Ev K te sl st (dS z)) : Ei K (iStr te) sl st (z.cps.toList.map fun k => dS (S [k])) := fun c σ e s S' R q => h c σ e s S' _ fun v c1 t1 s1 e1 r1 => by
  refine ⟨z, rv_s r1, q _ c1 t1 s1 e1 ⟨fun c2 i u s hi => ?_, fun c2 u s => ?_, fun c2 i x v H' u s hx hy => ?_⟩⟩
  · show i < z.cps.size
    simpa using hi
  · show z.cps.size ≤ _
    simp
  · obtain ⟨e2, k, hk, rfl⟩ := hy
    refine ⟨c2, e2.symm, rfl, Tr.refl c2, s, ?_⟩
    have : z.cps.toList[i]? = some k := by rw [Array.getElem?_toList]; exact hk
    rw [List.getElem?_map, this] at hx
    cases hx
    exact .str _
theorem ei_rng1 {ta : TA} {n : Int} (h : Ea K ta sl st [dI n]) (hn : n ≤ 1000000 ∧ -1000000 ≤ n) : Ei K (iRng1 ta) sl st ((List.range n.toNat).map fun i => dI (i : Nat)) := fun c σ e s S' R q => h c σ e s S' _ fun vs c1 t1 s1 e1 r1 => by
  obtain ⟨v, rfl, r2⟩ := rvs1 r1
  cases rv_i r2
  refine ⟨n, rfl, by omega, by omega, q _ c1 t1 s1 e1 ⟨fun c2 i u s hi => ?_, fun c2 u s => ?_, fun c2 i x v H' u s hx hy => ?_⟩⟩
  · show i < n.toNat
    simpa using hi
  · show n.toNat ≤ _
    simp
  · obtain ⟨e2, rfl⟩ := hy
    refine ⟨c2, e2.symm, rfl, Tr.refl c2, s, ?_⟩
    have hi : i < n.toNat := by simpa using (List.getElem?_eq_some_iff.mp hx).1
    rw [List.getElem?_map, List.getElem?_range hi] at hx
    cases hx
    rw [Int.zero_add]
    exact .int _
theorem wi_rng1 {ta : TA} {Φ : List AV → Sto → Prop} (h : Wa K b ta sl st fun xs st1 => ∃ n : Int, xs = [dI n] ∧ (n ≤ 1000000 ∧ -1000000 ≤ n) ∧ Φ ((List.range n.toNat).map fun i => dI (i : Nat)) st1) : Wi K b (iRng1 ta) sl st Φ := fun c σ e tb s S' R q => h c σ e tb s S' _ fun vs c1 xs t1 s1 r1 ⟨n, e3, hn, k⟩ => by
  subst e3
  obtain ⟨v, rfl, r2⟩ := rvs1 r1
  cases rv_i r2
  refine ⟨n, rfl, by omega, by omega, q _ c1 _ t1 s1 ⟨fun c2 i u s hi => ?_, fun c2 u s => ?_, fun c2 i x v H' u s hx hy => ?_⟩ k⟩
  · show i < n.toNat
    simpa using hi
  · show n.toNat ≤ _
    simp
  · obtain ⟨e2, rfl⟩ := hy
    refine ⟨c2, e2.symm, rfl, Tr.refl c2, s, ?_⟩
    have hi : i < n.toNat := by simpa using (List.getElem?_eq_some_iff.mp hx).1
    rw [List.getElem?_map, List.getElem?_range hi] at hx
    cases hx
    rw [Int.zero_add]
    exact .int _
/-- enumerate(data list) -/
def enumD : Nat → List PyData → List PyData
  | _, [] => []
  | n, d :: ds => .tuple [.int n, d] :: enumD (n + 1) ds
theorem enumD_get : ∀ (ds : List PyData) (n i : Nat), (enumD n ds)[i]? = ds[i]?.map fun d => .tuple [.int ((n + i : Nat) : Int), d]
  | [], n, i => by simp [enumD]
  | d :: ds, n, 0 => by simp [enumD]
  | d :: ds, n, i + 1 => by
    simp only [enumD, List.getElem?_cons_succ, enumD_get ds (n + 1) i]
    have : n + 1 + i = n + (i + 1) := by omega
    rw [this]
theorem enumD_len : ∀ (ds : List PyData) (n : Nat), (enumD n ds).length = ds.length
  | [], n => rfl
  | d :: ds, n => by simp [enumD, enumD_len ds (n + 1)]
theorem pair_new {c2 : Cf} {T : Addr} {u v : V} {x y : PyData} (s : SR K c2) (h : c2.hp T = none) (r1 : Rv K c2 u (.d x)) (r2 : Rv K c2 v (.d y)) : ∃ c3, c3.hp = upd c2.hp T (.tup [u, v]) ∧ c3.st = c2.st ∧ Tr c2 c3 ∧ SR K c3 ∧ Rv K c3 (.ref T) (dT [x, y]) := by
  obtain ⟨t, s3, n⟩ := tr_new (o := .tup [u, v]) s h
  exact ⟨c2.new T (.tup [u, v]), rfl, rfl, t, s3, Dt.tup n upd_same (.cons (t.rv (x := .d x) r1) (.cons (t.rv (x := .d y) r2) .nil))⟩
theorem ei_enum {ta : TA} {ds : List PyData} (h : Ea K ta sl st [dL ds]) : Ei K (iEnum K ta) sl st ((enumD 0 ds).map AV.d) := fun c σ e s S' R q => h c σ e s S' _ fun vs c1 t1 s1 e1 r1 => by
  obtain ⟨v, rfl, r2⟩ := rvs1 r1
  cases r2 with
  | @lst a us _ m ea d1 =>
    have L : ∀ c2, Up c1 c2 → SqL K c2.hp a us := fun c2 u => Or.inl (Or.inl (u.keep _ _ m ea).2)
    refine ⟨a, us, rfl, L c1 (Tr.refl c1).up, q _ c1 t1 s1 e1 ⟨fun c2 i u s hi => ?_, fun c2 u s => ?_, fun c2 i x v H' u s hx hy => ?_⟩⟩
    · rw [List.length_map, enumD_len, ← d1.len] at hi
      exact walk_enum.goes i _ hi (L c2 u)
    · rw [List.length_map, enumD_len, ← d1.len]
      exact walk_enum.stops _ (L c2 u)
    · have hi := (List.getElem?_eq_some_iff.mp hx).1
      rw [List.length_map, enumD_len, ← d1.len] at hi
      obtain ⟨T, v1, v2, rfl, hT, rfl, h3, h4⟩ := (walk_enum (K := K)).yields i _ v H' hi (L c2 u) hy
      rw [List.getElem?_map, enumD_get] at hx
      obtain ⟨d, hd, dd⟩ := d1.getV i v2 h4
      rw [hd] at hx
      cases hx
      cases h3
      have := pair_new s hT (u := .int (i : Nat)) (v := v2) (x := .int (i : Nat)) (y := d) (.int _) (u.rv (x := .d d) dd)
      simpa using this
/-- zip of two data lists -/
theorem ei_zip {ta : TA} {ds es : List PyData} (h : Ea K ta sl st [dL ds, dL es]) : Ei K (iZip K ta) sl st ((ds.zip es).map fun p => dT [p.1, p.2]) := fun c σ e s S' R q => h c σ e s S' _ fun vs c1 t1 s1 e1 r1 => by
  obtain ⟨v, w, rfl, r2, r3⟩ := rvs2 r1
  cases r2 with
  | @lst a us _ m ea d1 =>
    cases r3 with
    | @lst a' us' _ m' ea' d1' =>
      have L : ∀ c2, Up c1 c2 → SqL K c2.hp a us ∧ SqL K c2.hp a' us' := fun c2 u => ⟨Or.inl (Or.inl (u.keep _ _ m ea).2), Or.inl (Or.inl (u.keep _ _ m' ea').2)⟩
      have hl : ((ds.zip es).map fun p => dT [p.1, p.2]).length = min us.length us'.length := by rw [List.length_map, List.length_zip, d1.len, d1'.len]
      have w := walk_zip (K := K) (a := a) (b := a') (xs := us) (ys := us') hl
      refine ⟨a, a', us, us', rfl, (L c1 (Tr.refl c1).up).1, (L c1 (Tr.refl c1).up).2, q _ c1 t1 s1 e1 ⟨fun c2 i u s hi => w.goes i _ hi (L c2 u), fun c2 u s => w.stops _ (L c2 u), fun c2 i x v H' u s hx hy => ?_⟩⟩
      have hi := (List.getElem?_eq_some_iff.mp hx).1
      obtain ⟨T, v1, v2, rfl, hT, rfl, h3, h4⟩ := w.yields i _ v H' hi (L c2 u) hy
      obtain ⟨d, hd, dd⟩ := d1.getV i v1 h3
      obtain ⟨d', hd', dd'⟩ := d1'.getV i v2 h4
      have hz : (ds.zip es)[i]? = some (d, d') := by rw [List.getElem?_zip_eq_some]; exact ⟨hd, hd'⟩
      rw [List.getElem?_map, hz] at hx
      cases hx
      exact pair_new s hT (u.rv (x := .d d) dd) (u.rv (x := .d d') dd')
/-! ### comprehensions -/
/-- one turn of a comprehension -/
def Lc (K : PySem.W.Frag) (g : TG) (tt : TT) (te : TE) (vs : List Nat) (sl : Sl) (st : Sto) (x : AV) (r : Option PyData) : Prop := ∃ sl' js, (∀ j ∈ js, j ∈ vs) ∧ Eg K g (wipeS sl vs) x sl' js ∧ match r with
  | none => Et K tt sl' st false
  | some y => Et K tt sl' st true ∧ Ev K te sl' st (.d y)
/-- D hidden, over c1 -/
structure Hid (K : PySem.W.Frag) (c1 : Cf) (D : Addr) (c : Cf) (acc : List PyData) : Prop where
  s : SR K c
  hid : c.hid = D :: c1.hid
  al : ∃ l, c.al = c1.al ++ l
  up : Up c1 c
  kh : ∀ a ∈ c1.hid, c.hp a = c1.hp a
  acc : ∃ us, c.hp D = some (.lst us) ∧ DtA K c.Alive c.hp us acc
theorem hid_start {c1 : Cf} {D : Addr} (s : SR K c1) (h : c1.hp D = none) : Hid K c1 D ⟨c1.al, c1.st, upd c1.hp D (.lst []), D :: c1.hid⟩ [] := by
  have hD : D ∉ c1.al := fun m => s.al D m h
  have dom : ∀ a, upd c1.hp D (.lst []) a = none → c1.hp a = none := fun a e => by
    by_cases q : a = D
    · subst q; exact h
    · rw [upd_ne q] at e; exact e
  have u : Up c1 ⟨c1.al, c1.st, upd c1.hp D (.lst []), D :: c1.hid⟩ := ⟨⟨[], by simp⟩, fun a o n e => ⟨?_, by show upd c1.hp D _ a = _; rw [upd_ne (ne_of_none e h)]; exact e⟩, dom⟩
  · refine ⟨⟨fun a m => ?_, fun a m e => ?_, s.len, s.nd, fun a m e => s.al a m (dom a e), fun i a o e1 e2 => ?_⟩, rfl, ⟨[], by simp⟩, u, fun a m => ?_, [], upd_same, .nil⟩
    · show a ∉ D :: c1.hid
      rw [List.mem_cons, not_or]
      exact ⟨fun z => hD (z ▸ m), s.dj a m⟩
    · have m : a ∈ D :: c1.hid := m
      rcases List.mem_cons.mp m with rfl | m
      · have e : upd c1.hp a (.lst []) a = none := e
        rw [upd_same] at e; cases e
      · exact s.hd a m (dom a e)
    · have hne : a ≠ D := fun z => hD (z ▸ List.mem_of_getElem? e1)
      have := s.ob i a o e1 e2
      have eh : upd c1.hp D (.lst []) a = c1.hp a := upd_ne hne
      cases o with
      | dead => trivial
      | lst xs =>
        obtain ⟨vs, p, q⟩ := this
        exact ⟨vs, eh.trans p, paired_imp (fun _ _ r => u.rv r) q⟩
      | dk kvs =>
        obtain ⟨vs, p, q⟩ := this
        exact ⟨vs, eh.trans p, paired_imp (fun _ _ r => ⟨r.1, u.rv r.2⟩) q⟩
      | ins C fs =>
        obtain ⟨dx, vs, p, q⟩ := this
        exact ⟨dx, vs, eh.trans p, paired_imp (fun _ _ r => ⟨r.1, u.rv r.2⟩) q⟩
      | exc cls fs =>
        obtain ⟨d, vs, p, nx, x, q⟩ := this
        exact ⟨d, vs, eh.trans p, (xdict_keep (K := K) u.keep nx x).1, (xdict_keep (K := K) u.keep nx x).2, paired_imp (fun _ _ r => ⟨r.1, u.rv r.2⟩) q⟩
    · show upd c1.hp D _ a = _
      rw [upd_ne]
      rintro rfl
      exact s.hd a m h
  · rintro (m | m)
    · have m : a ∈ D :: c1.hid := m
      rcases List.mem_cons.mp m with rfl | m
      · rw [h] at e; cases e
      · exact n (Or.inl m)
    · exact n (Or.inr m)
theorem hid_tr {c1 c c' : Cf} {D : Addr} {acc : List PyData} (h : Hid K c1 D c acc) (t : Tr c c') (s : SR K c') : Hid K c1 D c' acc := by
  obtain ⟨l, e⟩ := h.al
  obtain ⟨l', e'⟩ := t.pre
  obtain ⟨us, h1, h2⟩ := h.acc
  have hD : D ∈ c.hid := by rw [h.hid]; exact List.mem_cons_self ..
  exact ⟨s, t.hid.trans h.hid, ⟨l ++ l', by rw [e', e, List.append_assoc]⟩, h.up.trans t.up, fun a m => (t.keepH a (by rw [h.hid]; exact List.mem_cons_of_mem _ m)).trans (h.kh a m), us, (t.keepH D hD).trans h1, DtA.mono t.keep _ _ h2⟩
/-- one more item -/
theorem hid_push {c1 c : Cf} {D : Addr} {acc : List PyData} {v : V} {y : PyData} (h : Hid K c1 D c acc) (hD1 : c1.hp D = none) (r : Rv K c v (.d y)) : ∃ us, c.hp D = some (.lst us) ∧ us.length = acc.length ∧ Hid K c1 D { c with hp := upd c.hp D (.lst (us ++ [v])) } (acc ++ [y]) := by
  obtain ⟨us, h1, h2⟩ := h.acc
  refine ⟨us, h1, h2.len, ?_⟩
  have hD : D ∈ c.hid := by rw [h.hid]; exact List.mem_cons_self ..
  have aD : c.Alive D := Or.inl hD
  have keep : ∀ a o, ¬ c.Alive a → c.hp a = some o → ¬ Cf.Alive { c with hp := upd c.hp D (.lst (us ++ [v])) } a ∧ upd c.hp D (.lst (us ++ [v])) a = some o := fun a o n e => ⟨n, by rw [upd_ne (fun z => n (by rw [z]; exact aD))]; exact e⟩
  have dom : ∀ a, upd c.hp D (.lst (us ++ [v])) a = none → c.hp a = none := fun a e => by
    by_cases q : a = D
    · subst q; rw [upd_same] at e; cases e
    · rw [upd_ne q] at e; exact e
  have u : Up c { c with hp := upd c.hp D (.lst (us ++ [v])) } := ⟨⟨[], by simp⟩, keep, dom⟩
  refine ⟨⟨h.s.dj, fun a m e => h.s.hd a m (dom a e), h.s.len, h.s.nd, fun a m e => h.s.al a m (dom a e), fun i a o e1 e2 => ?_⟩, h.hid, h.al, h.up.trans u, fun a m => ?_, us ++ [v], upd_same, (DtA.mono keep _ _ h2).app (.cons (Dt.mono keep _ _ r) .nil)⟩
  · have hne : a ≠ D := fun z => h.s.dj a (List.mem_of_getElem? e1) (by rw [z]; exact hD)
    have := h.s.ob i a o e1 e2
    have eh : upd c.hp D (.lst (us ++ [v])) a = c.hp a := upd_ne hne
    cases o with
    | dead => trivial
    | lst xs =>
      obtain ⟨vs, p, q⟩ := this
      exact ⟨vs, eh.trans p, paired_imp (fun _ _ r => u.rv r) q⟩
    | dk kvs =>
      obtain ⟨vs, p, q⟩ := this
      exact ⟨vs, eh.trans p, paired_imp (fun _ _ r => ⟨r.1, u.rv r.2⟩) q⟩
    | ins C fs =>
      obtain ⟨dx, vs, p, q⟩ := this
      exact ⟨dx, vs, eh.trans p, paired_imp (fun _ _ r => ⟨r.1, u.rv r.2⟩) q⟩
    | exc cls fs =>
      obtain ⟨d, vs, p, nx, x, q⟩ := this
      exact ⟨d, vs, eh.trans p, (xdict_keep (K := K) u.keep nx x).1, (xdict_keep (K := K) u.keep nx x).2, paired_imp (fun _ _ r => ⟨r.1, u.rv r.2⟩) q⟩
  · have hne : a ≠ D := fun z => by
      subst z
      have := h.kh a m
      rw [h1, hD1] at this
      cases this
    show upd c.hp D _ a = _
    rw [upd_ne hne]
    exact h.kh a m
/-- the end: the list is data -/
theorem hid_end {c1 c : Cf} {D : Addr} {acc : List PyData} (h : Hid K c1 D c acc) (hD1 : c1.hp D = none) : Tr c1 { c with hid := c1.hid } ∧ SR K { c with hid := c1.hid } ∧ Rv K { c with hid := c1.hid } (.ref D) (dL acc) := by
  have hD : D ∈ c.hid := by rw [h.hid]; exact List.mem_cons_self ..
  have al : ∀ {a}, Cf.Alive { c with hid := c1.hid } a → c.Alive a := fun {a} z => by
    rcases z with m | m
    · exact Or.inl (by rw [h.hid]; exact List.mem_cons_of_mem _ m)
    · exact Or.inr m
  have keep : ∀ a o, ¬ c.Alive a → c.hp a = some o → ¬ Cf.Alive { c with hid := c1.hid } a ∧ c.hp a = some o := fun a o n e => ⟨fun z => n (al z), e⟩
  have u : Up c { c with hid := c1.hid } := ⟨⟨[], by simp⟩, keep, fun _ e => e⟩
  obtain ⟨us, h1, h2⟩ := h.acc
  refine ⟨⟨h.al, fun a o n e => ⟨fun z => (h.up.keep a o n e).1 (al z), (h.up.keep a o n e).2⟩, h.up.dom, rfl, h.kh⟩, ⟨fun a m z => h.s.dj a m (by rw [h.hid]; exact List.mem_cons_of_mem _ z), fun a m => h.s.hd a (by rw [h.hid]; exact List.mem_cons_of_mem _ m), h.s.len, h.s.nd, h.s.al, fun i a o e1 e2 => ?_⟩, ?_⟩
  · have := h.s.ob i a o e1 e2
    cases o with
    | dead => trivial
    | lst xs =>
      obtain ⟨vs, p, q⟩ := this
      exact ⟨vs, p, paired_imp (fun _ _ r => u.rv r) q⟩
    | dk kvs =>
      obtain ⟨vs, p, q⟩ := this
      exact ⟨vs, p, paired_imp (fun _ _ r => ⟨r.1, u.rv r.2⟩) q⟩
    | ins C fs =>
      obtain ⟨dx, vs, p, q⟩ := this
      exact ⟨dx, vs, p, paired_imp (fun _ _ r => ⟨r.1, u.rv r.2⟩) q⟩
    | exc cls fs =>
      obtain ⟨d, vs, p, nx, x, q⟩ := this
      exact ⟨d, vs, p, (xdict_keep (K := K) u.keep nx x).1, (xdict_keep (K := K) u.keep nx x).2, paired_imp (fun _ _ r => ⟨r.1, u.rv r.2⟩) q⟩
  · refine .lst ?_ h1 (DtA.mono keep _ _ h2)
    rintro (m | ⟨i, o, e1, e2, e3⟩)
    · exact h.up.dom D |> fun _ => by
        have := h.kh D m
        rw [h1, hD1] at this
        cases this
    · exact h.s.dj D (List.mem_of_getElem? e1) hD
theorem take_get {α : Type} {xs : List α} {i : Nat} {x : α} (h : xs[i]? = some x) : xs.take (i + 1) = xs.take i ++ [x] := by
  rw [List.take_succ, h]
  rfl
/-- [te for g in wi if tt], the store as it was -/
theorem ev_lc {wi : TI} {g : TG} {tt : TT} {vs : List Nat} {xs : List AV} (f : AV → Option PyData) (hi : Ei K wi sl st xs) (hn : xs.length ≤ 1000000) (hx : ∀ x ∈ xs, Lc K g tt te vs sl st x (f x)) : Ev K (tLc wi g tt te vs) sl st (dL (xs.filterMap f)) := fun c σ e s S Q q =>
  hi c σ e s S _ fun J c1 t1 s1 e1 w => fun D hD => by
  refine ⟨fun i m H => m = xs.length - i ∧ i ≤ xs.length ∧ ∃ c2, c2.hp = H ∧ c2.st = st ∧ Hid K c1 D c2 ((xs.take i).filterMap f), ⟨_, rfl, Nat.zero_le _, _, rfl, e1, hid_start s1 hD⟩, ?_⟩
  rintro i m H ⟨rfl, hle, c2, rfl, e2, hd⟩
  by_cases hlt : i < xs.length
  · refine Or.inr ⟨w.go c2 i hd.up hd.s hlt, fun H' => (i + 1) ≤ xs.length ∧ ∃ c3, c3.hp = H' ∧ c3.st = st ∧ Hid K c1 D c3 ((xs.take (i + 1)).filterMap f), fun H' ⟨h1, h2⟩ => ⟨_, by omega, rfl, h1, h2⟩, fun v H' hy => ?_⟩
    have hx1 : xs[i]? = some xs[i] := List.getElem?_eq_getElem hlt
    obtain ⟨c3, rfl, e3, t3, s3, r3⟩ := w.yld c2 i _ v H' hd.up hd.s hx1 hy
    have hd3 := hid_tr hd t3 s3
    obtain ⟨sl', js, hjs, hg, hr⟩ := hx xs[i] (List.getElem_mem hlt)
    have S3 : SS K c3 (wipe σ vs) (wipeS sl vs) := ss_wipe (hd3.up.ss (t1.ss S)) vs
    refine hg c3 _ v s3 S3 r3 _ fun σ' S' hw => ⟨(hw vs hjs).trans wipe_wipe, ?_⟩
    rw [take_get hx1, List.filterMap_append]
    cases hf : f xs[i] with
    | none =>
      rw [hf] at hr
      refine hr c3 σ' (e3.trans e2) s3 S' _ fun c4 t4 s4 e4 => ?_
      rw [if_neg (by decide)]
      refine ⟨hlt, c4, rfl, e4, ?_⟩
      have : List.filterMap f [xs[i]] = [] := by simp [hf]
      rw [this, List.append_nil]
      exact hid_tr hd3 t4 s4
    | some y =>
      rw [hf] at hr
      refine hr.1 c3 σ' (e3.trans e2) s3 S' _ fun c4 t4 s4 e4 => ?_
      rw [if_pos rfl]
      refine hr.2 c4 σ' e4 s4 (t4.ss S') _ fun u c5 t5 s5 e5 r5 => ?_
      have hd5 := hid_tr (hid_tr hd3 t4 s4) t5 s5
      obtain ⟨us, h1, h2, h3⟩ := hid_push hd5 hD r5
      refine ⟨us, h1, ?_, hlt, { c5 with hp := upd c5.hp D (.lst (us ++ [u])) }, rfl, e5, ?_⟩
      · rw [h2]
        have l1 : ((xs.take i).filterMap f).length ≤ (xs.take i).length := List.length_filterMap_le ..
        rw [List.length_take] at l1
        have : sizeLine = 16777216 := sizeLine_eq
        omega
      · have : List.filterMap f [xs[i]] = [y] := by simp [hf]
        rw [this]
        exact h3
  · have : i = xs.length := by omega
    subst this
    rw [List.take_length] at hd
    obtain ⟨t, s', r⟩ := hid_end hd hD
    exact Or.inl ⟨w.stop c2 hd.up hd.s, q _ { c2 with hid := c1.hid } (t1.trans t) s' e2 r⟩
/-- [te for g in wi] -/
theorem ev_lcM {wi : TI} {g : TG} {vs : List Nat} {xs : List AV} (f : AV → PyData) (hi : Ei K wi sl st xs) (hn : xs.length ≤ 1000000) (hx : ∀ x ∈ xs, ∃ sl' js, (∀ j ∈ js, j ∈ vs) ∧ Eg K g (wipeS sl vs) x sl' js ∧ Ev K te sl' st (.d (f x))) : Ev K (tLc wi g tYes te vs) sl st (dL (xs.map f)) := by
  have := ev_lc (K := K) (sl := sl) (st := st) (te := te) (g := g) (tt := tYes) (vs := vs) (fun x => some (f x)) hi hn fun x hm => by
    obtain ⟨sl', js, h1, h2, h3⟩ := hx x hm
    exact ⟨sl', js, h1, h2, fun c σ e s S Q q => q c (Tr.refl c) s e, h3⟩
  have e : xs.filterMap (fun x => some (f x)) = xs.map f := by
    induction xs with
    | nil => rfl
    | cons x xs ih => simp
  rwa [e] at this
/-- [te for g in wi], the store changing -/
theorem wx_lc {wi : TI} {g : TG} {vs : List Nat} {Φ : AV → Sto → Prop} (hi : Wi K b wi sl st fun xs st1 => xs.length ≤ 1000000 ∧ ∃ P : Nat → List PyData → Sto → Prop, P 0 [] st1 ∧
    (∀ i x acc st2, xs[i]? = some x → P i acc st2 → acc.length ≤ i → ∃ sl' js, (∀ j ∈ js, j ∈ vs) ∧ Eg K g (wipeS sl vs) x sl' js ∧ ∀ b', Wx K b' te sl' st2 fun y st3 => ∃ d, y = .d d ∧ P (i + 1) (acc ++ [d]) st3) ∧
    (∀ acc st2, P xs.length acc st2 → Φ (dL acc) st2)) : Wx K b (tLc wi g tYes te vs) sl st Φ := fun c σ e tb s S Q q =>
  hi c σ e tb s S _ fun J c1 xs t1 s1 w ⟨hn, P, h0, hs, he⟩ => fun D hD => by
  refine ⟨fun i m H => m = xs.length - i ∧ i ≤ xs.length ∧ ∃ c2 acc, c2.hp = H ∧ P i acc c2.st ∧ acc.length ≤ i ∧ Hid K c1 D c2 acc, ⟨_, rfl, Nat.zero_le _, _, [], rfl, h0, Nat.le_refl _, hid_start s1 hD⟩, ?_⟩
  rintro i m H ⟨rfl, hle, c2, acc, rfl, hp, hl, hd⟩
  by_cases hlt : i < xs.length
  · refine Or.inr ⟨w.go c2 i hd.up hd.s hlt, fun H' => (i + 1) ≤ xs.length ∧ ∃ c3 acc', c3.hp = H' ∧ P (i + 1) acc' c3.st ∧ acc'.length ≤ i + 1 ∧ Hid K c1 D c3 acc', fun H' ⟨h1, h2⟩ => ⟨_, by omega, rfl, h1, h2⟩, fun v H' hy => ?_⟩
    have hx1 : xs[i]? = some xs[i] := List.getElem?_eq_getElem hlt
    obtain ⟨c3, rfl, e3, t3, s3, r3⟩ := w.yld c2 i _ v H' hd.up hd.s hx1 hy
    have hd3 := hid_tr hd t3 s3
    obtain ⟨sl', js, hjs, hg, hr⟩ := hs i _ acc c2.st hx1 hp hl
    have S3 : SS K c3 (wipe σ vs) (wipeS sl vs) := ss_wipe (hd3.up.ss (t1.ss S)) vs
    refine hg c3 _ v s3 S3 r3 _ fun σ' S' hw => ⟨(hw vs hjs).trans wipe_wipe, ?_⟩
    show te σ' c3.hp _
    refine hr c3 c3 σ' e3 (Tr.refl c3) s3 S' _ fun u c5 y t5 s5 r5 ⟨d, e5, k5⟩ => ?_
    subst e5
    have hd5 := hid_tr hd3 t5 s5
    obtain ⟨us, h1, h2, h3⟩ := hid_push hd5 hD r5
    refine ⟨us, h1, ?_, hlt, { c5 with hp := upd c5.hp D (.lst (us ++ [u])) }, acc ++ [d], rfl, k5, by rw [List.length_append, List.length_singleton]; omega, h3⟩
    rw [h2]
    have : sizeLine = 16777216 := sizeLine_eq
    omega
  · have : i = xs.length := by omega
    subst this
    obtain ⟨t, s', r⟩ := hid_end hd hD
    exact Or.inl ⟨w.stop c2 hd.up hd.s, q _ { c2 with hid := c1.hid } (dL acc) (t1.trans t) s' r (he _ _ hp)⟩
/-! ### loops -/
theorem ws_for {wi : TI} {g : TG} {tb : TS} {e : DE} (hi : Wi K b wi sl st fun xs st1 => ∃ P : Nat → Sl → Sto → Prop, P 0 sl st1 ∧
    (∀ i x sl1 st2, xs[i]? = some x → P i sl1 st2 → ∃ sl2 js, Eg K g sl1 x sl2 js ∧ Ws K b tb sl2 st2 { e with nx := P (i + 1), ct := P (i + 1), bk := e.nx }) ∧
    (∀ sl1 st2, P xs.length sl1 st2 → e.nx sl1 st2)) : Ws K b (tFor wi g tb) sl st e := fun b' hb D d c σ ec tr s S =>
  hi c σ ec (hb.trans tr) s S _ fun J c1 xs t1 s1 w ⟨P, h0, hs, he⟩ => by
  refine ⟨fun i m σ H => m = xs.length - i ∧ i ≤ xs.length ∧ ∃ c2 sl1, c2.hp = H ∧ Tr c1 c2 ∧ SR K c2 ∧ SS K c2 σ sl1 ∧ P i sl1 c2.st, ⟨_, rfl, Nat.zero_le _, c1, sl, rfl, Tr.refl c1, s1, t1.ss S, h0⟩, ?_⟩
  rintro i m σ H ⟨rfl, hle, c2, sl1, rfl, t2, s2, S2, hp⟩
  by_cases hlt : i < xs.length
  · refine Or.inr ⟨w.go c2 i t2.up s2 hlt, fun σ' H' => (i + 1) ≤ xs.length ∧ ∃ c3 sl1, c3.hp = H' ∧ Tr c1 c3 ∧ SR K c3 ∧ SS K c3 σ' sl1 ∧ P (i + 1) sl1 c3.st, fun σ' H' ⟨h1, h2⟩ => ⟨_, by omega, rfl, h1, h2⟩, fun v H' hy => ?_⟩
    have hx1 : xs[i]? = some xs[i] := List.getElem?_eq_getElem hlt
    obtain ⟨c3, rfl, e3, t3, s3, r3⟩ := w.yld c2 i _ v H' t2.up s2 hx1 hy
    obtain ⟨sl2, js, hg, hr⟩ := hs i _ sl1 c2.st hx1 hp
    refine hg c3 σ v s3 (t3.ss S2) r3 _ fun σ' S' _ => ?_
    refine hr c1 (hb.trans (tr.trans t1)) _ ?_ c3 σ' e3 (t2.trans t3) s3 S'
    have B : Tr b' c1 := tr.trans t1
    exact ⟨fun c4 σ4 sl4 t4 s4 S4 k => ⟨hlt, c4, sl4, rfl, t4, s4, S4, k⟩, fun c4 v x t4 => d.rt c4 v x (B.trans t4), fun c4 σ4 sl4 t4 => d.nx c4 σ4 sl4 (B.trans t4), fun c4 σ4 sl4 t4 s4 S4 k => ⟨hlt, c4, sl4, rfl, t4, s4, S4, k⟩⟩
  · have : i = xs.length := by omega
    subst this
    exact Or.inl ⟨w.stop c2 t2.up s2, d.nx c2 σ sl1 ((tr.trans t1).trans t2) s2 S2 (he _ _ hp)⟩
end
end AL

set_option Elab.async false
set_option linter.all false
set_option maxRecDepth 100000
set_option maxHeartbeats 4000000
/-! AL7: defs on data and names. -/
namespace AL
open PySem PySem.Spec PyProof.Rows L2
def startS (N : List Str) (xs : List AV) : Sl := xs.map some ++ List.replicate (N.length - xs.length) none
theorem ss_start {K : PySem.W.Frag} {c : Cf} {N : List Str} {vs : List V} {xs : List AV} (r : Rvs K c vs xs) : SS K c (L2.start N vs) (startS N xs) := by
  have hl : vs.length = xs.length := r.length
  refine ⟨by unfold L2.start startS; simp [hl], fun i x e => ?_⟩
  unfold startS at e
  unfold L2.start
  by_cases hi : i < xs.length
  · rw [List.getElem?_append_left (by simpa using hi)] at e
    rw [List.getElem?_append_left (by simpa [hl] using hi)]
    have g : ∀ {vs : List V} {xs : List AV} (j : Nat), Rvs K c vs xs → (xs.map some)[j]? = some (some x) → ∃ v, (vs.map some)[j]? = some (some v) ∧ Rv K c v x := by
      intro vs xs j r
      induction r generalizing j with
      | nil => intro h; simp at h
      | cons r _ ih =>
        intro h
        cases j with
        | zero =>
          have h : some (some _) = some (some x) := h
          cases h
          exact ⟨_, rfl, r⟩
        | succ j => exact ih j h
    exact g i r e
  · rw [List.getElem?_append_right (by simpa using Nat.le_of_not_lt hi)] at e
    simp at e
    rw [List.getElem?_replicate] at e
    split at e <;> cases e
section
variable {P : Program} {w : World} {K : PySem.W.Frag} {mg : Str → Option Value} {base : Heap} {x qual : Str} {params : Arguments} {body : List Stmt} {scope : Scope} {dvs : List V} {kws : List (Str × V)} {f C : Addr} {fd : FuncData} {N ps : List Str} {k : Nat}
/-- a def keeps its promise on data and names -/
theorem fn_D {F : DS} (FD : FunD K x qual params body scope dvs kws f fd) (S : FnScope N ps scope) (len : ∀ xs st Φ Ψ, F xs st Φ Ψ → xs.length = ps.length)
    (hb : ∀ (cdv : Value) (A : Around) (outer : List Env) (s : Shared) (H : Hp) (E : XK), Room k (A.deeper (envOfC qual scope s.heap.objs.size f cdv)) →
      ∃ t, PSs (bodyCx P w K mg base N qual scope f cdv A outer s H E) body t ∧ ∀ (b : Cf) xs st Φ Ψ, F xs st Φ Ψ → ErrOk K b (fun cls d _ H => E cls d H) (fun _ e st => Ψ e st) → Ws K b t (startS N xs) st { nx := fun _ st' => Φ dN st', rt := Φ }) : FnOk P w K mg base (L2.CX P w) (k + 1) f fd ps (spD K F) := by
  refine FD.ok S (fun vs H Q E h => ?_) (fun cdv A outer s H vs Q E hr h => ?_)
  · obtain ⟨c, xs, Φ, Ψ, _, _, r, hf, _⟩ := h
    exact (show vs.length = xs.length from r.length).trans (len _ _ _ _ hf)
  · obtain ⟨c, xs, Φ, Ψ, rfl, s0, r, hf, hq, he⟩ := h
    obtain ⟨t, pt, ht⟩ := hb cdv A outer s c.hp E hr
    refine ⟨t, pt, ht c xs c.st Φ Ψ hf (fun cls d c' σ sl e t' s' S' er k => he cls d c' e t' s' er k) c (Tr.refl c) _ ⟨fun c' σ sl t' s' S' k => hq .non c' dN t' s' .non k, fun c' v x t' s' r k => hq v c' x t' s' r k, fun c' σ sl _ _ _ k => k.elim, fun c' σ sl _ _ _ k => k.elim⟩ c _ rfl (Tr.refl c) s0 (ss_start r)⟩
end
/-- a def of the module, by its name -/
abbrev DefD (P : Program) (w : World) (K : PySem.W.Frag) (mg : Str → Option Value) (base : Heap) (k : Nat) (x : Str) (dvs : List V) (F : DS) : Prop := DefOk P w K mg base k x dvs (spD K F)
/-- pure: f of the arguments under C -/
def pureD (n : Nat) (R : List PyData → PyData → Prop) : DS := fun xs st Φ _ => ∃ ds y, xs = ds.map AV.d ∧ ds.length = n ∧ R ds y ∧ Φ (.d y) st
end AL

set_option Elab.async false
set_option linter.all false
set_option maxRecDepth 100000
set_option maxHeartbeats 4000000
/-! AL8: try .. except C as n: .., where the exception may be kept beyond the suite; its class and its fields read there. -/
namespace AL
open PySem PySem.W PySem.Spec PySem.Calls PyProof.Rows
section
variable {prog : Program} {w : World} {A : Around} {E : Value → Shared → Prop} {s : Shared} {K : Frag} {x D : Addr} {ox : Obj} {od : Option Obj}
theorem findObj_dataO {C : Addr} {name : Str} {a g : Value} (hc : (clsIn K C).isSome = true) (ha : findIn K (.ref C) name = some (some a)) (hg : specialIn K a "__get__" = some (some g)) (ht : takesIn K a = some true) : findObj K C od name = some (.bind g a) := by
  obtain ⟨cd, hc⟩ := Option.isSome_iff_exists.mp hc
  unfold findObj
  rw [hc, Option.bind_some, ha, Option.bind_some]
  simp [hg, ht]
theorem kin_classO {Q : Option Value → Shared → Prop} (hga : findIn K (.ref D) "__getattribute__" = some (some (.builtin "BaseException.__getattribute__"))) (hgt : findIn K (.ref D) "__getattr__" = some none) (hsub : subIn K (.ref D) (.type "BaseException") = some true)
    (hdct : hasDictIn K D = true) (ha : findIn K (.ref D) "__class__" = some (some (.builtin "object.__class__")))
    (hn : specialIn K (.builtin "object.__class__") "__get__" = some (some (.builtin "getset_descriptor.__get__"))) (htk : takesIn K (.builtin "object.__class__") = some true) (hm : mroIn K D (.type "object") = some true)
    (X : K.In s.heap) (I : InstAt s.heap x ox D od) (h : Q (some (.ref D)) { s with toks := s.toks + 1 }) : wpAny (model prog w) A (getAttr? (.ref x) "__class__") Q E s := by
  have hf : findObj K D od "__class__" = some (.bind (.builtin "getset_descriptor.__get__") (.builtin "object.__class__")) := findObj_dataO (by obtain ⟨cd, hc, _⟩ := any_some hdct; rw [hc]; rfl) ha hn htk
  obtain ⟨hp, g, d, t, os⟩ := s
  have L0 := I.type (M := model prog w)
  have L1 := looks_findIn (M := model prog w) X hga
  have L2 := looks_findIn (M := model prog w) X hgt
  have L3 := looks_find (M := model prog w) X I hf
  have sub : Looks (model prog w) hp (isInstance (.ref x) (.type "BaseException")) true := L0.andThen (looks_subIn X hsub)
  have hx0 : (false && onTheHeap (Value.builtin "BaseException.__getattribute__")) = false := rfl
  have hx2 : (Value.builtin "BaseException.__getattribute__" == Value.builtin "object.__getattribute__") = false := by decide +kernel
  have hx1 : (onTheHeap (Value.ref D) && Value.builtin "BaseException.__getattribute__" == Value.builtin "object.__getattribute__") = false := by rw [hx2]; rfl
  unfold getAttr? getAttrBy? getAttrBy
  refine wpAny_bind (wpAny_mkText (wpAny_bind (wpAny_attempt (wpAny_holding (wpAny_bind (L0.at (wpAny_bind (L1.at ?_))))))))
  show wpAny _ _ (if (onTheHeap (Value.ref D) && Value.builtin "BaseException.__getattribute__" == Value.builtin "object.__getattribute__") = true then _ else _) _ _ _
  rw [hx1, if_neg Bool.false_ne_true]
  unfold getAttrByItsOwn hookBefore
  refine wpAny_bind ?_
  rw [if_pos (show onTheHeap (Value.ref D) = true from rfl)]
  refine L2.at ?_
  refine wpAny_bind (wpAny_attempt (wpAny_holding ?_))
  unfold callGetattribute
  rw [hx0, if_neg Bool.false_ne_true]
  unfold boundAndCalled
  rw [PySem.F.excAttr_ValueError.ga.bind (.ref x)]
  refine wpAny_bind (wpAny_pure ?_)
  show wpAny _ _ (call (.builtin "BaseException.__getattribute__") [.ref x, .str "__class__" t]) _ _ _
  refine wpAny_call (codeAny_call_builtin PySem.F.excAttr_ValueError.ga.plain PySem.F.entry_bexc_ga ?_)
  refine @check_slot (model prog w) _ _ ⟨hp, g, d, t + 1, os⟩ "BaseException.__getattribute__" "BaseException" "__getattribute__" (.ref x) [.str "__class__" t] [] _ (by decide +kernel) (by decide +kernel) sub (PySem.F.args_bexc_ga (.ref x) (.str "__class__" t)) ?_
  unfold Builtin.«object.__getattribute__»
  refine wpAny_bind (wpAny_of_eq (a := ((Value.ref x : Value), [Value.str "__class__" t])) (by first | rfl | (simp only [slotArgs]; rfl)) ?_)
  refine wpAny_bind (wpAny_pure (wpAny_bind (L0.at (wpAny_bind (L3.at ?_)))))
  show wpAny _ _ (holding [Value.builtin "object.__class__"] (call (.builtin "getset_descriptor.__get__") [.builtin "object.__class__", .ref x, .ref D]) >>= ret) _ _ _
  refine wpAny_bind (wpAny_holding (wpAny_call (class_get (s := ⟨hp, g, d, t + 1, os⟩) (ox := ox) (od := od) X I hm ?_)))
  refine wpAny_pure ?_
  show wpAny _ _ (handedOut (.ref D)) _ _ _
  rw [handedOut_of (v := .ref D) rfl]
  first
    | exact wpAny_pure (wpAny_pure h)
    | exact wpAny_pure h
    | exact wpAny_pure (wpAny_bind (wpAny_pure (wpAny_pure h)))
theorem kitx_excO (hga : findIn K (.ref D) "__getattribute__" = some (some (.builtin "BaseException.__getattribute__"))) (hgt : findIn K (.ref D) "__getattr__" = some none) (hsub : subIn K (.ref D) (.type "BaseException") = some true) (hdct : hasDictIn K D = true) (ha : findIn K (.ref D) "__class__" = some (some (.builtin "object.__class__")))
    (hn : specialIn K (.builtin "object.__class__") "__get__" = some (some (.builtin "getset_descriptor.__get__"))) (htk : takesIn K (.builtin "object.__class__") = some true) (hm : mroIn K D (.type "object") = some true) :
    KitX K (.ref x) (.ref D) (fun h => InstAt h x ox D od) where
  ty := fun _ _ _ I => I.type
  it := fun _ _ X _ => by
    obtain ⟨cdD, hcD, _⟩ := any_some hdct
    unfold clsIn at hcD
    split at hcD
    · rename_i c' d' cd' sl' ho
      intro A' Q' E' s' k q
      unfold isType loadHead
      exact wpAny_bind (wpAny_loadPart (k _ _ (X _ _ ho)) (wpAny_pure q))
    · cases hcD
  ne := fun h tp dd its n sl X htp => by
    obtain ⟨cdD, hcD, _⟩ := any_some hdct
    refine Bool.eq_false_iff.mpr fun q => ?_
    have e : D = tp := Value.ref.inj (beq_iff_eq.mp q)
    subst e
    unfold clsIn at hcD
    split at hcD
    · rename_i c' d' cd' sl' ho
      have z := (X _ _ ho).symm.trans htp
      cases z
    · cases hcD
  ca := fun X I k => kin_classO hga hgt hsub hdct ha hn htk hm X I k
end
end AL
namespace AL
open PySem PySem.Spec PyProof.Rows L2
theorem exk_ok {P : Program} {w : World} {H : Hp} {h : Heap} {a : Addr} {cls : Value} {d : Option Addr} {oe : Obj} {vs : Array Value} (e : h.get? a = some oe) (z : Zc cls d oe) (hd : oe.data = .fields vs) : ObjOk P w H h a (exk a cls d) :=
  ⟨⟨oe, vs, e, z, hd⟩, ⟨oe, e⟩, fun _ _ ⟨o, v, q, r⟩ k => ⟨o, v, k o q, r⟩⟩
section
variable {X : Cx} {pins : List (Addr × Obj)} {σ : L2.St} {H : Hp} {s : Shared}
/-- a pinned object that is younger than the entry becomes a tracked one -/
theorem inv_track {a : Addr} {oe : Obj} {o : HO} (I : Inv X ((a, oe) :: pins) σ H s) (h0 : X.s_0.heap.get? a = none) (hp : ∀ p ∈ X.pn ++ pins, p.1 ≠ a) (hc : ∀ x c, X.env.cells.lookup x = some c → c ≠ a) (new : ObjOk X.prog X.w (upd H a o) s.heap a o) :
    Inv X pins σ (upd H a o) s := by
  obtain ⟨e, hn, nL, nF, _⟩ := I.pin (a, oe) (List.mem_append_right _ (List.mem_cons_self ..))
  have hn : H a = none := hn
  have ne0 : ∀ b u, X.s_0.heap.get? b = some u → b ≠ a := fun b u q z => by
    rw [z, h0] at q; cases q
  refine ⟨I.ok, I.os, I.bare, ⟨I.base.keep, I.base.slot, fun b u q n hx => ?_, I.base.there, fun b xs q => ?_, fun b u v q => ?_, fun b ps q => ?_⟩, I.loc, I.cell, ?_, fun x c q => ?_, fun p hm => ?_, ?_, I.len⟩
  · rw [upd_ne (ne0 b u q)]
    exact I.base.free b u q n hx
  · have z := I.base.tups b xs q
    rw [upd_ne (ne_of_none z hn)]
    exact z
  · have z := I.base.frzs b u v q
    rw [upd_ne (ne_of_none z hn)]
    exact z
  · obtain ⟨m, z⟩ := I.base.tbls b ps q
    exact ⟨m, by rw [upd_ne (ne_of_none z hn)]; exact z⟩
  · rw [upd_ne (Ne.symm nL)]
    exact I.free
  · rw [upd_ne (hc x c q)]
    exact I.freeC x c q
  · have hm' : p ∈ X.pn ++ ((a, oe) :: pins) := by
      rcases List.mem_append.mp hm with h | h
      · exact List.mem_append_left _ h
      · exact List.mem_append_right _ (List.mem_cons_of_mem _ h)
    obtain ⟨p1, p2, p3⟩ := I.pin p hm'
    exact ⟨p1, by rw [upd_ne (hp p hm)]; exact p2, p3⟩
  · exact HOk.laidN I.hok (fun _ _ z => z) hn new
theorem inv_unsuite {a : Addr} {oe : Obj} {pn' : List (Addr × Obj)} (I : Inv (X.suite a ((a, oe) :: (X.pn ++ pins))) pn' σ H s) (ok : X.Ok) : Inv X ((a, oe) :: pins) σ H s :=
  ⟨ok, I.os, I.bare, I.base, I.loc, I.cell, I.free, I.freeC, fun p hp => I.pin p (by
    refine List.mem_append_left _ ?_
    rcases List.mem_append.mp hp with h | h
    · exact List.mem_cons_of_mem _ (List.mem_append_left _ h)
    · rcases List.mem_cons.mp h with h | h
      · rw [h]; exact List.mem_cons_self ..
      · exact List.mem_cons_of_mem _ (List.mem_append_right _ h)), I.hok, I.len⟩
end
/-- what 'except c as n' wishes of an exception of the body (slot i is n's); behind the suite the exception stands tracked -/
def wAsK (K : PySem.W.Frag) (c : Value) (i : Nat) (ts : Addr → Value → Option Addr → TS) (Wout : WX) (D : Ends) : WX := fun cls d σ H =>
  ∃ b, PySem.W.exmOne K cls c = some b ∧ (b = true → ∀ a, H a = none → ts a cls d { nx := fun σ' H' => D.nx (σ'.set i none) (upd H' a (exk a cls d)), rt := fun v H' => D.rt v (upd H' a (exk a cls d)), bk := fun σ' H' => D.bk (σ'.set i none) (upd H' a (exk a cls d)), ct := fun σ' H' => D.ct (σ'.set i none) (upd H' a (exk a cls d)) } (σ.set i (some (.ref a))) H) ∧
    (b = false → Wout cls d σ H)
section
variable {X : Cx} {x n : Str} {c : Value} {i : Nat} {body suite : List Stmt} {b₀ : Stmt} {np pos pos' : Pos} {tb : WX → TS} {ts : Addr → Value → Option Addr → TS} {Wout : WX}
theorem ps_try_keep (hs : X.stack = X.env :: X.outer) (hf : X.env.frame = some X.env.locals) (hN : X.N.Nodup) (hi : X.N[i]? = some n) (hln : X.env.kindOf n = some .local) (hc : Names X x c) (tk : Takes X Wout) (hex : X.ex = [])
    (hb : ∀ (W : WX) (pn : List (Addr × Obj)) (xe : Value → Shared → Prop), Takes (X.tr pn xe) W → PassesOwn (model X.prog X.w) X.A X.env xe → PSs (X.tr pn xe) body (tb W))
    (hsu : ∀ (a : Addr) (oe : Obj) (cls : Value) (d : Option Addr) (pn : List (Addr × Obj)), Zc cls d oe → (∃ vs, oe.data = .fields vs) → PSs (X.suite a ((a, oe) :: pn)) (b₀ :: suite) (ts a cls d)) :
    PS X (.Try body [.ExceptHandler (some (.Name x np)) (some n) (b₀ :: suite) pos'] [] [] pos) (fun D σ H => tb (wAsK X.K c i ts Wout D) D σ H) := by
  refine ⟨fun pins s σ H D I h => ?_⟩
  have ok := I.ok
  have hfr : X.A.frames = some (X.env :: X.outer) := by rw [ok.frames, hs]
  have hloc : Loc X.env.scope n := .inl hln
  refine wpAny_Try_except ?_
  refine wpAny_mono ((hb (wAsK X.K c i ts Wout D) (X.pn ++ pins) (fun e s₁ => wpAny (model X.prog X.w) X.A (noteFrame e X.env) (fun _ s₂ => wpAny (model X.prog X.w) X.A (setFlight e none) (fun _ s₃ =>
    wpAny (model X.prog X.w) X.A (handleBy e X.env [.ExceptHandler (some (.Name x np)) (some n) (b₀ :: suite) pos']) (SP X pins D) X.xe s₃) X.xe s₂) X.xe s₁) (fun u s' xx => ?_) PassesOwn.looking).run [] s σ H D (I.toTry _) h) (fun f s1 hsp => ?_) (fun e s1 he => he)
  · obtain ⟨a, B, sI, pins', σ', H', cls, d, rfl, J', nb, up, sky, na, os, ag, b, hb1, hyes, hno⟩ := xx
    have J : Inv X pins σ' H' sI := J'.ofTry ok
    have sky' : Sky B (X.env :: X.outer) a (Zc cls d) X.env.locals s'.heap := by rw [← hs]; exact sky
    have Ba : B.get? a = none := by
      rcases sky' with z | z | z
      · exact z.2.1
      · exact z.2.1
      · exact z.2.1
    show wpAny (model X.prog X.w) X.A (noteFrame (.ref a) X.env) _ _ _
    refine Sky.land Zc.steady hfr hf sky' fun h3 fl3 up3 => ?_
    have J3 : Inv X pins σ' H' { s' with heap := h3 } := J.landed nb fl3.1 (up.trans up3) os ag
    obtain ⟨oe3, vs3, he3, hz3, hd3⟩ := fl3.there
    have nfr : a ∉ frs (X.env :: X.outer) := fun hm => by
      obtain ⟨_, o', e', hnf⟩ := fl3.2.2.1.mem hm
      rw [he3] at e'; cases e'
      exact hnf _ hd3
    have sIa : sI.heap.get? a = none := by
      cases q : sI.heap.get? a with
      | none => rfl
      | some o =>
        have := nb a o q (by rw [hs]; exact nfr)
        rw [Ba] at this
        cases this
    have s0a : X.s_0.heap.get? a = none := by
      cases q : X.s_0.heap.get? a with
      | none => rfl
      | some o =>
        obtain ⟨o', z⟩ := J.base.there a o q (by rw [hex]; exact fun z => nomatch z)
        rw [sIa] at z
        cases z
    have nL : a ≠ X.env.locals := fun z => nfr (List.mem_filterMap.mpr ⟨X.env, List.mem_cons_self, by rw [hf, z]⟩)
    have nF : a ∉ X.fs := fun hm => by
      obtain ⟨e, he, q⟩ := List.mem_filterMap.mp hm
      exact nfr (List.mem_filterMap.mpr ⟨e, List.mem_cons_of_mem _ he, q⟩)
    have nP : ∀ p ∈ X.pn ++ pins, p.1 ≠ a := fun p hp z => by
      have := (J.pin p hp).1
      rw [z, sIa] at this
      cases this
    have nC : ∀ y k, X.env.cells.lookup y = some k → k ≠ a := fun y k q z => by
      obtain ⟨v, o, ho, _⟩ := J.cell y k q
      rw [z, sIa] at ho
      cases ho
    have S3 := J3.suite he3 hd3 na nL nF
    refine wpAny_handleBy_cons (codeAny_handlers_test ?_) (by intro q; cases q)
    have LT : PySem.W.Looks (model X.prog X.w) h3 (typeOf (.ref a)) cls := fun A Q E s k q => wpAny_typeOf_ref (k _ _ he3) (by rw [hz3.1]; exact q)
    have LM := PySem.W.exm_one (M := model X.prog X.w) (J3.kIn) LT hb1
    have test : ∀ {Q : Value → Shared → Prop} {E : Value → Shared → Prop}, Q c { s' with heap := h3 } → wpAny (model X.prog X.w) (X.A.mark (some (.ref a))) (eval (.Name x np) X.env) Q E { s' with heap := h3 } := fun {Q E} q => by
      obtain ⟨hg, hdbg, hm | ⟨hm, hv, hnn⟩⟩ := hc
      · exact ld_glob (X := X.suite a ((a, oe3) :: (X.pn ++ pins))) S3 hg hm q hdbg
      · exact ld_blt (X := X.suite a ((a, oe3) :: (X.pn ++ pins))) S3 hg hm hv q hnn hdbg
    refine test (LM.here ?_)
    cases b with
    | true =>
      refine codeAny_handlers_suite_as ?_
      refine HandSPX.lands_againZ fl3 fun h4 fl4 up4 => ?_
      have J4 : Inv X pins σ' H' { s' with heap := h4 } := J.landed nb fl4.1 ((up.trans up3).trans up4) os ag
      obtain ⟨oe4, vs4, he4, hz4, hd4⟩ := fl4.there
      have S4 := J4.suite he4 hd4 na nL nF
      refine store_ok (X := X.suite a ((a, oe4) :: (X.pn ++ pins))) (v := .ref a) S4 hN hi hloc rfl (fun s5 S5 => ?_) (.inr hln)
      refine wpAny_mono ((hsu a oe4 cls d (X.pn ++ pins) hz4 ⟨_, hd4⟩).run [] s5 _ H' _ S5 (hyes rfl a na)) (fun f s6 hsp => ?_) (fun _ _ z => False.elim z)
      have end_ : ∀ {σ6 : L2.St} {H6 : Hp} {Q : Shared → Prop}, Inv (X.suite a ((a, oe4) :: (X.pn ++ pins))) [] σ6 H6 s6 → (∀ s7, Inv X pins (σ6.set i none) (upd H6 a (exk a cls d)) s7 → Q s7) →
          wpAny (model X.prog X.w) X.A (do bindName X.env n .none; unbindBehindTheSuite X.env n pos') (fun _ s7 => Q s7) X.xe s6 := fun {σ6 H6 Q} S6 hq => gone_ok (inv_unsuite S6 ok) hN hi hln fun s7 J7 => hq s7 (by
            have e7 := (J7.pin (a, oe4) (List.mem_append_right _ (List.mem_cons_self ..))).1
            exact inv_track J7 s0a nP nC (exk_ok e7 hz4 hd4))
      cases f with
      | next =>
        obtain ⟨σ6, H6, S6, q6⟩ := hsp
        exact end_ S6 fun s7 J7 => ⟨_, _, J7, q6⟩
      | brk =>
        obtain ⟨σ6, H6, S6, q6⟩ := hsp
        exact end_ S6 fun s7 J7 => ⟨_, _, J7, q6⟩
      | cont =>
        obtain ⟨σ6, H6, S6, q6⟩ := hsp
        exact end_ S6 fun s7 J7 => ⟨_, _, J7, q6⟩
      | ret u =>
        obtain ⟨v6, σ6, H6, S6, r6, q6⟩ := hsp
        exact end_ S6 fun s7 J7 => ⟨_, _, _, J7, r6, q6⟩
    | false =>
      show wpAny _ X.A (handleBy (.ref a) X.env []) _ _ _
      refine wpAny_handleBy_nil ?_
      obtain ⟨k1, k2, k3, oe, vs, T, oT, ts', he, hz, hd, h1, hr⟩ := id fl3
      unfold PySem.passOn
      refine wpAny_bind (wpAny_field he hd h1 ?_)
      rw [if_neg (show ¬ ((Value.ref T == Value.none) = true) from by simp)]
      have fin : wpAny (model X.prog X.w) X.A (setFlight (.ref a) X.env.frame) (fun _ s4 => wpAny (model X.prog X.w) X.A (throw (.ref a) : Sem Flow) (SP X pins D) X.xe s4) X.xe { s' with heap := h3 } := by
        rw [hf]
        refine HandSPX.setFlight_upZ fl3 fun h4 hh4 up4 => wpAny_throw (tk _ _ ?_)
        exact ⟨a, B, sI, pins, σ', H', cls, d, rfl, J, nb, (up.trans up3).trans up4, .inr (.inr (by rw [hs]; exact hh4)), na, os, ag, hno rfl⟩
      first
        | exact wpAny_bind (wpAny_pure (wpAny_bind fin))
        | exact wpAny_bind fin
  · cases f with
    | next =>
      obtain ⟨σ', H', J', q⟩ := hsp
      exact wpAny_execs_nil ⟨σ', H', J'.ofTry ok, q⟩
    | brk =>
      obtain ⟨σ', H', J', q⟩ := hsp
      exact ⟨σ', H', J'.ofTry ok, q⟩
    | cont =>
      obtain ⟨σ', H', J', q⟩ := hsp
      exact ⟨σ', H', J'.ofTry ok, q⟩
    | ret u =>
      obtain ⟨v, σ', H', J', r, q⟩ := hsp
      exact ⟨v, σ', H', J'.ofTry ok, r, q⟩
end
/-! ### a kept exception: its class, its fields -/
section
variable {X : Cx}
theorem exk_at {P : Program} {w : World} {H : Hp} {h : Heap} {a : Addr} {cls : Value} {d : Option Addr} (ok : HOk P w H h) (e : H a = some (exk a cls d)) : ∃ (oe : Obj) (vs : Array Value), h.get? a = some oe ∧ Zc cls d oe ∧ oe.data = .fields vs := by
  have x : ObjOk P w H h a (.ext fun h => ∃ (oe : Obj) (vs : Array Value), h.get? a = some oe ∧ Zc cls d oe ∧ oe.data = .fields vs) := ok a _ e
  exact x.1
theorem exk_inst {pins : List (Addr × Obj)} {σ : L2.St} {H : Hp} {s : Shared} {a D : Addr} {d : Option Addr} {fs : List (Str × V)} (I : Inv X pins σ H s) (e : H a = some (exk a (.ref D) d)) (x : XDict H d fs) :
    ∃ (oe : Obj) (od : Option Obj), PySem.W.InstAt s.heap a oe D od ∧ (∀ dd, d = some dd → ∃ o mA, od = some o ∧ s.heap.Ns1 dd mA ∧ s.heap.get? dd = some o ∧ ∀ f, RelO (fs.lookup f) (mA f)) := by
  obtain ⟨oe, vs, h1, h2, h3⟩ := exk_at I.hok e
  cases d with
  | none =>
    refine ⟨oe, none, ?_, fun dd z => nomatch z⟩
    obtain ⟨oc, od, oda, osl⟩ := oe
    obtain ⟨z1, z2⟩ := h2
    dsimp only at z1 z2 h3
    subst z1 z2 h3
    exact ⟨h1, rfl, rfl, trivial⟩
  | some dd =>
    have hx : ObjOk X.prog X.w H s.heap dd (.xd fs) := I.hok dd _ x
    obtain ⟨mA, hns, hr⟩ := hx
    obtain ⟨o, es, ep, ho, hrest⟩ := id hns
    refine ⟨oe, some o, ?_, fun d' z => by cases z; exact ⟨o, mA, rfl, hns, ho, hr⟩⟩
    obtain ⟨oc, od, oda, osl⟩ := oe
    obtain ⟨z1, z2⟩ := h2
    dsimp only at z1 z2 h3
    subst z1 z2 h3
    exact ⟨h1, rfl, rfl, ho⟩
/-- isinstance(e, C) of a kept exception -/
def rIsX (K : PySem.W.Frag) : List V → Hp → VK → Prop := fun xs H Q => ∃ (a D C : Addr) (d : Option Addr) (fs : List (Str × V)) (b : Bool), xs = [.ref a, .ref C] ∧ H a = some (exk a (.ref D) d) ∧ XDict H d fs ∧ ExcC K D ∧ PySem.W.kitOne K (.ref D) (.ref C) = some b ∧ Q (.bl b) H
theorem call_isX : CallR X (.builtin "isinstance") (rIsX X.K) := by
  intro pins s σ H xs us Q I r h
  obtain ⟨a, D, C, d, fs, b, rfl, ea, x, T, e, q⟩ := h
  obtain ⟨u1, u2, rfl, r1, r2⟩ := vals2 r
  cases r1
  cases r2
  obtain ⟨oe, od, J, _⟩ := exk_inst I ea x
  exact PySem.W.kia_one (kitx_excO T.hg T.hk T.hs T.hd T.ha T.hn T.ht T.hm) I.kIn J e (fun z => nomatch z) fun tk => ⟨.bl b, H, I.kept (t' := tk) fun _ _ z => z, rfl, q⟩
end
end AL

set_option Elab.async false
set_option linter.all false
set_option maxRecDepth 100000
set_option maxHeartbeats 4000000
/-! AL9: an own exception over an own exception: D.__init__(self, ..), self.f = .., raise C(..). -/
namespace AL
open PySem PySem.Spec PyProof.Rows L2
/-- the class D (an own exception class without __init__) gives ValueError's -/
structure DInit (K : PySem.W.Frag) (mg : Str → Option Value) (x : Str) : Prop where
  ex : ∃ (D : Addr) (mc : Value), mg x = some (.ref D) ∧ PySem.W.readsIn K D mc = true ∧ PySem.W.specialIn K (.ref D) "__getattribute__" = some (some (.builtin "type.__getattribute__")) ∧ PySem.W.findCls K (.ref D) mc "__init__" = some (.val (.builtin "ValueError.__init__"))
section
variable {X : Cx} {x : Str} {o e : Expr} {es : List Expr} {to te : TE} {ta : TA} {f : Str} {p p' p1 p2 pos : Pos}
theorem pe_dinit {pl : Sem Bool} (T : DInit X.K X.mg x) (ha : PA X (e :: es) ta) (hg : Gl X x := by rfl) (hdb : (x == ("__debug__" : Str)) = false := by decide)
    (hc : eval (.Call (.Attribute (.Name x p1) "__init__" p2) (e :: es) [] pos) X.env = (do
      let ov ← eval (.Name x p1) X.env
      standAt p2.atName
      let (f, first) ← holding [ov] (getMethod ov "__init__" pl)
      callWith pos f first (backTo pos (starEach (e :: es) X.env)) (backToKw pos (keywordEach [] X.env))) := by rfl)
    (he : starEach (e :: es) X.env = (false, eval e X.env) :: starEach es X.env := by rfl) (hpl : (backTo pos (starEach es X.env)).any (·.1) = false := by rfl) :
    PE X (.Call (.Attribute (.Name x p1) "__init__" p2) (e :: es) [] pos) (tVeI X.K ta) := by
  obtain ⟨D, mc, hm, rd, ga, at_⟩ := T.ex
  refine ⟨fun pins s σ H Q I h => ?_⟩
  refine PySem.W.methodCall_KW (ld_glob I hg hm ?_ hdb) hc
  refine PySem.W.method_cls I.kIn ga (PySem.W.cls_value I.kIn rd at_ (by decide +kernel) ?_)
  show wpAny _ _ (callWith pos (Value.builtin "ValueError.__init__") [] (backTo pos (starEach (e :: es) X.env)) []) _ _ _
  refine PyProof.Rows.callWith_method1 (thn (ha.run pos pins _ σ H _ (I.tok _) h) fun us s1 ⟨vs, H1, I1, r1, a, C, ws, ev, hl, T, ea, q⟩ => ?_) he hpl
  subst ev
  cases r1 with
  | @cons _ u0 _ ur ra rw' =>
    obtain rfl : u0 = Value.ref a := ra
    have hlen : ur.length ≤ sizeLine := by
      rw [← Paired.length rw', sizeLine_eq]
      omega
    exact oinit_ok T I1 ea hlen fun s' J => ⟨.non, H1, J, rfl, q⟩
end
end AL

set_option Elab.async false
set_option linter.all false
set_option maxRecDepth 100000
set_option maxHeartbeats 4000000
/-! AL10: raise C(x), try .. except C as n: k = n, on data and names. -/
namespace AL
open PySem PySem.Spec PyProof.Rows L2
/-- C.__init__(self, v): self.f = v -/
def spInit (C : Addr) (f : Str) : Sp := fun vs H Q E => ∃ a v, vs = [.ref a, v] ∧ H a = some (exo a C none) ∧ ∀ dx, H dx = none → dx ≠ a → Q .non (upd (upd H dx (exd dx [(f, v)])) a (exo a C (some dx)))
theorem passE0 {P : Program} {w : World} {X : Cx} : Passes (L2.CX P w) X (fun _ _ _ => False) := fun pins σ H s e s' I h => by
  obtain ⟨a, B, H', cls, d, _, _, _, _, _, _, _, z⟩ := h
  exact z.elim
/-- an own exception class with such an __init__ -/
structure ExcD (P : Program) (w : World) (K : PySem.W.Frag) (mg : Str → Option Value) (base : Heap) (x : Str) (C : Addr) (f : Str) : Prop where
  ex : ∃ (fI : Addr) (fd : FuncData) (ps : List Str), OexC K C ∧ PySem.W.findIn K (.ref C) "__init__" = some (some (.ref fI)) ∧ PySem.W.typeIn K (.ref fI) = some (.type "function") ∧
    FnOk P w K mg base (L2.CX P w) 1 fI fd ps (spInit C f) ∧ mg x = some (.ref C) ∧ Binds K fd ps []
section
variable {X : Cx} {x f : Str} {C : Addr} {e : Expr} {te : TE} {p pos pos2 : Pos} {W : WX} {j : Nat}
theorem ps_raiseC (T : ExcD X.prog X.w X.K X.mg X.base x C f) (hr : Room j X.A) (tk : Takes X W) (he : PE X e te) (hc : X.calm = true := by rfl) (hk : 2 ≤ j := by decide) (hg : Gl X x := by rfl)
    (hdb : (x == ("__debug__" : Str)) = false := by decide) (hs : starEach [e] X.env = (false, eval e X.env) :: starEach [] X.env := by rfl) :
    PS X (.Raise (some (.Call (.Name x p) [e] [] pos)) none pos2) (fun _ σ H => tMkO C (spInit C f) [] (tCons te tNil) σ H fun cls d H' => W cls d σ H') := by
  obtain ⟨fI, fd, ps, T1, iC, tI, F, hm, hb⟩ := T.ex
  exact ps_raise hc tk (pmk_oex T1 iC tI F (hr.mono hk) hb .nil passE0 hg hm (pa_cons he pa_nil hs) hdb hs)
end
section
variable {K : PySem.W.Frag} {b : Cf} {sl : Sl} {st : Sto} {te : TE} {e : DE}
theorem xd_heap {H1 : Hp} {a dx : Addr} {o1 o2 o3 o4 : HO} (ha : H1 a = none) (hne : dx ≠ a) : upd (del (upd (upd (upd H1 a o1) dx o2) a o3) a) dx o4 = upd H1 dx o4 := by
  funext y
  by_cases h1 : y = dx
  · subst h1; rw [upd_same, upd_same]
  · rw [upd_ne h1, upd_ne h1]
    by_cases h2 : y = a
    · subst h2; rw [del_same, ha]
    · rw [del_ne h2, upd_ne h2, upd_ne h1, upd_ne h2]
/-- raise C(x) -/
theorem ws_raiseC {W : WX} {G : Sl → AE → Sto → Prop} {C : Addr} {f : Str} (hW : ErrOk K b W G) (h : Wx K b te sl st fun x st1 => G sl ⟨.ref C, some [(f, x)]⟩ st1) :
    Ws K b (fun _ σ H => tMkO C (spInit C f) [] (tCons te tNil) σ H fun cls d H' => W cls d σ H') sl st e := fun b' hb D d c σ ec tb s S =>
  h c σ ec (hb.trans tb) s S _ fun v c1 x t1 s1 r1 k => by
  refine ⟨by show 1 ≤ 1000; decide, fun a ha => ⟨a, v, rfl, upd_same, fun dx hdx hne => ⟨rfl, dx, [(f, v)], upd_same, ?_, ?_, ?_⟩⟩⟩
  · rw [upd_ne hne, upd_same]
  · rw [upd_ne hne] at hdx
    exact hdx
  · rw [upd_ne hne] at hdx
    rw [xd_heap ha hne]
    obtain ⟨t2, s2, n2⟩ := tr_new (o := .xd [(f, v)]) s1 hdx
    exact hW (.ref C) (some dx) (c1.new dx (.xd [(f, v)])) σ sl ⟨.ref C, some [(f, x)]⟩ (((hb.trans tb).trans t1).trans t2) s2 ((t1.trans t2).ss S) ⟨rfl, dx, [(f, v)], rfl, upd_same, n2, .cons ⟨rfl, t2.rv r1⟩ .nil⟩ k
/-- try: body / except c as n: k = n -/
theorem ws_keep {c : Value} {i j : Nat} {tb : WX → TS} {Wout : WX} {G : Sl → AE → Sto → Prop} (hW : ErrOk K b Wout G) (hij : i ≠ j) (hi : i < sl.length)
    (h : ∀ b1 W, Tr b b1 → ErrOk K b1 W (fun sl' er st' => ∃ r, PySem.W.exmOne K er.cls c = some r ∧ (r = true → sl'.length = sl.length ∧ e.nx ((sl'.set j (some (.o st'.length))).set i none) (st' ++ [.exc er.cls (er.fs.getD [])])) ∧ (r = false → G sl' er st')) → Ws K b1 (tb W) sl st e) :
    Ws K b (fun D σ H => tb (wAsK K c i (fun _ _ _ => tAsg (tVar i) (gName j)) Wout D) D σ H) sl st e := fun b' hb D d c0 σ ec tr s S => by
  refine h b' _ hb ?_ b' (Tr.refl b') D d c0 σ ec tr s S
  intro cls dd c1 σ1 sl1 er t1 s1 S1 hEr ⟨r, hr, hy, hn⟩
  obtain ⟨rfl, hfs⟩ := hEr
  refine ⟨r, hr, fun hrt a ha => ?_, fun hrf => hW _ _ c1 σ1 sl1 er (hb.trans t1) s1 S1 ⟨rfl, hfs⟩ (hn hrf)⟩
  obtain ⟨hl, hnx⟩ := hy hrt
  have hil : i < σ1.length := by rw [S1.1, hl]; exact hi
  refine ⟨.ref a, by rw [List.getElem?_set_self hil], ?_⟩
  have t2 := tr_add (ho := exk a er.cls dd) (o := .exc er.cls (er.fs.getD [])) s1 ha
  have s2 : SR K (c1.add a (exk a er.cls dd) (.exc er.cls (er.fs.getD []))) := by
    refine sr_add s1 ha ?_
    have z : ∃ ws, (∀ d2, dd = some d2 → ¬ c1.Alive d2) ∧ XDict c1.hp dd ws ∧ Rf K c1 ws (er.fs.getD []) := by
      cases hf : er.fs with
      | none =>
        rw [hf] at hfs
        have hfs : dd = none := hfs
        subst hfs
        exact ⟨[], (fun _ z => by cases z), rfl, .nil⟩
      | some fs =>
        rw [hf] at hfs
        obtain ⟨dx, ws, rfl, h1, h2, h3⟩ := hfs
        exact ⟨ws, (fun d2 z => by cases z; exact h2), h1, h3⟩
    obtain ⟨ws, z1, z2, z3⟩ := z
    obtain ⟨y1, y2⟩ := xdict_keep (K := K) t2.keep z1 z2
    exact ⟨dd, ws, upd_same, y1, y2, paired_imp (fun _ _ r => ⟨r.1, t2.rv r.2⟩) z3⟩
  have S2 := t2.ss S1
  have S3 := (S2.set (i := j) (v := .ref a) (x := .o c1.st.length) ⟨a, add_idx s1, rfl⟩).forget (i := i)
  have e3 : (σ1.set j (some (.ref a))).set i none = ((σ1.set i (some (.ref a))).set j (some (.ref a))).set i none := by
    apply List.ext_getElem?
    intro k
    by_cases h1 : i = k
    · subst h1
      rw [List.getElem?_set_self (by simpa using hil), List.getElem?_set_self (by simpa using hil)]
    · rw [List.getElem?_set_ne h1, List.getElem?_set_ne h1]
      by_cases h2 : j = k
      · subst h2
        by_cases h3 : j < σ1.length
        · rw [List.getElem?_set_self h3, List.getElem?_set_self (by simpa using h3)]
        · rw [List.getElem?_eq_none (by simpa using h3), List.getElem?_eq_none (by simpa using h3)]
      · rw [List.getElem?_set_ne h2, List.getElem?_set_ne h2, List.getElem?_set_ne h1]
  rw [e3] at S3
  exact d.nx (c1.add a (exk a er.cls dd) (.exc er.cls (er.fs.getD []))) _ _ (t1.trans t2) s2 S3 hnx
/-- isinstance(x, C) of a kept exception -/
theorem o_isX {n : Nat} {D C : Addr} {fs : List (Str × AV)} {r : Bool} (hn : st[n]? = some (.exc (.ref D) fs)) (T : ExcC K D) (h : PySem.W.kitOne K (.ref D) (.ref C) = some r) : Oc K (rIsX K) [.o n, .raw (.ref C)] st (dB r) := fun c vs e s rr Q q => by
  obtain ⟨v, w, rfl, ⟨a, ia, rfl⟩, r2⟩ := rvs2 rr
  cases r2
  obtain ⟨d, ws, h1, _, h3, _⟩ := s.ob n a _ ia (by rw [e]; exact hn)
  exact ⟨a, D, C, d, ws, r, rfl, h1, h3, T, h, q _ c (Tr.refl c) s e (.bl _)⟩
end
/-! ### a field of a kept exception -/
def tXk (K : PySem.W.Frag) (f : Str) (te : TE) : TE := fun σ H Q => te σ H fun x H1 => ∃ (a D dd : Addr) (fs : List (Str × V)) (v : V), x = .ref a ∧ H1 a = some (exk a (.ref D) (some dd)) ∧ H1 dd = some (.xd fs) ∧ XfC K D ∧ PySem.W.findIn K (.ref D) f = some none ∧ fs.lookup f = some v ∧ Q v H1
section
variable {X : Cx} {e : Expr} {te : TE} {pos : Pos} {f : Str}
theorem pe_xk (he : PE X e te) (hb : attributeBase e f X.env (eval e X.env) = eval e X.env := by rfl) : PE X (.Attribute e f pos) (tXk X.K f te) := by
  refine ⟨fun pins s σ H Q I h => ?_⟩
  refine attr_of hb (thn (he.run pins s σ H _ I h) fun u s1 hh => ?_)
  obtain ⟨x, H1, I1, rx, a, D, dd, fs, v, ex, ea, ed, T, hno, l, q⟩ := hh
  subst ex
  obtain rfl : u = Value.ref a := rx
  obtain ⟨oe, vs, h1, h2, h3⟩ := exk_at I1.hok ea
  have hx : ObjOk X.prog X.w H1 s1.heap dd (.xd fs) := I1.hok dd _ ed
  obtain ⟨mA, hns, hr⟩ := hx
  obtain ⟨od, ho, hl⟩ := lookIn_ns hns
  obtain ⟨u, hu, ru⟩ := RelO.some_of (v := v) (o := mA f) (by rw [← l]; exact hr f)
  have J : PySem.W.InstAt s1.heap a oe D (some od) := ⟨h1, h2.1, by unfold PySem.W.notCls; rw [h3] <;> rfl, by rw [h2.2]; exact ho⟩
  exact HandSPX.exc_get I1.kIn J T.ga T.gg T.exC (PySem.W.findObj_own T.hdC hno rfl (by rw [hl, hu])) (handed_of ru) ⟨v, H1, I1.tok _, ru, q⟩
end
section
variable {K : PySem.W.Frag} {sl : Sl} {st : Sto} {te : TE}
theorem rf_get {c : Cf} {f : Str} {x : AV} : ∀ {ws : List (Str × V)} {fs : List (Str × AV)}, Rf K c ws fs → fs.lookup f = some x → ∃ v, ws.lookup f = some v ∧ Rv K c v x
  | _, _, .nil, h => nomatch h
  | (g, v) :: ws, (g', y) :: fs, .cons r t, h => by
    obtain ⟨r1, r2⟩ := r
    have r1 : g = g' := r1
    subst r1
    rw [List.lookup_cons] at h ⊢
    cases hg : (f == g) with
    | true =>
      rw [hg] at h
      cases h
      exact ⟨v, rfl, r2⟩
    | false =>
      rw [hg] at h
      exact rf_get t h
theorem ev_xk {n : Nat} {D : Addr} {fs : List (Str × AV)} {f : Str} {x : AV} (h : Ev K te sl st (.o n)) (hn : st[n]? = some (.exc (.ref D) fs)) (T : XfC K D) (hno : PySem.W.findIn K (.ref D) f = some none) (hl : fs.lookup f = some x) : Ev K (tXk K f te) sl st x := fun c σ e s S Q q =>
  h c σ e s S _ fun v c1 t1 s1 e1 r1 => by
  obtain ⟨a, ia, rfl⟩ := r1
  obtain ⟨d, ws, h1, h2, h3, h4⟩ := s1.ob n a _ ia (by rw [e1]; exact hn)
  obtain ⟨v, l, rv⟩ := rf_get h4 hl
  cases d with
  | none =>
    have h3 : ws = [] := h3
    subst h3
    cases l
  | some dd => exact ⟨a, D, dd, ws, v, rfl, h1, h3, T, hno, l, q v c1 t1 s1 e1 rv⟩
end
end AL

set_option Elab.async false
set_option linter.all false
set_option maxRecDepth 100000
set_option maxHeartbeats 4000000
/-! AL11: a, *b = a list, a tuple. -/
namespace AL
open PySem PySem.W PySem.Spec PySem.Calls PyProof.Rows
section
variable {prog : Program} {w : World} {A : Around} {E : Value → Shared → Prop} {s : Shared}
/-- the parts of an unpacking whose star stands last, over a list -/
theorem partsL {l : Addr} {items : Array Value} {i : Nat} {Q : List Value → Shared → Prop} (hl : s.heap.IsList l items) (hh : A.handled = none) (hi : i ≤ items.size) (hz : items.size ≤ sizeLine)
    (h : ∀ (h' : Heap) (tk : Nat), (∀ b o, s.heap.get? b = some o → h'.get? b = some o) → Q (items.toList.take i ++ [.ref h'.objs.size] ++ []) { s with heap := h'.push { cls := .type "list", data := .seq (items.toList.drop i).toArray }, toks := tk }) : wpAny (model prog w) A (unpackItems (.ref l) (i + 1) (some i)) Q E s := by
  obtain ⟨o0, ho0, _⟩ := id hl
  have far : l ≠ s.heap.objs.size := Nat.ne_of_lt (Heap.lt_size ho0)
  unfold unpackItems
  refine wpAny_bind ?_
  unfold notIterableAtAll
  refine wpAny_bind (wpAny_specialOf hl.typeIs slot_list_iter.lookup (wpAny_pure ?_))
  simp only [Bool.false_eq_true, if_false]
  refine wpAny_bind (wpAny_holding (wpAny_pyIter_list hl ?_))
  refine wpAny_bind (wpAny_holding (kun_draw far i 0 _ _ ⟨_, Heap.get?_push_size _ rfl, rfl, rfl⟩ (hl.push _) (by omega) fun g it sb => ?_))
  have hl2 : g.IsList l items := (hl.push _).extBut sb.extBut far
  rw [Nat.zero_add] at it
  obtain ⟨oi, hoi, _⟩ := id it
  obtain ⟨ol, hol, _⟩ := id hl2
  rw [List.drop_zero]
  have ln : (items.toList.take i).length = i := by rw [List.length_take, Array.length_toList]; omega
  rw [if_neg (show ¬ ((items.toList.take i).length < i) by omega)]
  refine wpAny_bind (wpAny_holding (kun_collect (s := { s with heap := g }) (T := "list_iterator") (.inr (.inr (.inl rfl))) (Walks.list (A := A.in1) hh s.heap.objs.size l far items) (fun j u st => st.1.typeIs) hi ⟨it, hl2⟩ (Heap.lt_size hoi) (Heap.lt_size hol) (fun g2 tk hk => ?_) hz))
  have e0 : i + 1 - 1 - i = 0 := by omega
  show wpAny _ _ (if (items.toList.drop i).length < i + 1 - 1 - i then _ else _) _ _ _
  rw [if_neg (by omega)]
  show wpAny _ _ (newList ((items.toList.drop i).take ((items.toList.drop i).length - (i + 1 - 1 - i))) >>= fun d => pure (items.toList.take i ++ [d] ++ (items.toList.drop i).drop ((items.toList.drop i).length - (i + 1 - 1 - i)))) _ _ _
  rw [e0, Nat.sub_zero, List.take_length, List.drop_length]
  have k : ∀ b o, s.heap.get? b = some o → g2.get? b = some o := fun b o e => hk b o (Nat.ne_of_lt (Heap.lt_size e)) (sb.extBut b o (Nat.ne_of_lt (Heap.lt_size e)) (Heap.get?_push_of_some _ e))
  exact wpAny_bind (wpAny_newList (wpAny_pure (h g2 tk k)) (by rw [List.length_drop, Array.length_toList]; omega))
theorem partsT {l : Addr} {items : Array Value} {i : Nat} {Q : List Value → Shared → Prop} (hl : IsTup s.heap l items) (hh : A.handled = none) (hi : i ≤ items.size) (hz : items.size ≤ sizeLine)
    (h : ∀ (h' : Heap) (tk : Nat), (∀ b o, s.heap.get? b = some o → h'.get? b = some o) → Q (items.toList.take i ++ [.ref h'.objs.size] ++ []) { s with heap := h'.push { cls := .type "list", data := .seq (items.toList.drop i).toArray }, toks := tk }) : wpAny (model prog w) A (unpackItems (.ref l) (i + 1) (some i)) Q E s := by
  obtain ⟨o0, ho0, _⟩ := id hl
  have far : l ≠ s.heap.objs.size := Nat.ne_of_lt (Heap.lt_size ho0)
  unfold unpackItems
  refine wpAny_bind ?_
  unfold notIterableAtAll
  refine wpAny_bind (wpAny_specialOf hl.typeIs slot_tuple_iter.lookup (wpAny_pure ?_))
  simp only [Bool.false_eq_true, if_false]
  refine wpAny_bind (wpAny_holding (iter_tuple hl ?_))
  refine wpAny_bind (wpAny_holding (draw_tuple far i 0 _ _ ⟨_, Heap.get?_push_size _ rfl, rfl, rfl⟩ (hl.push _) (by omega) fun g it sb => ?_))
  have hl2 : IsTup g l items := (hl.push _).extBut sb.extBut far
  rw [Nat.zero_add] at it
  obtain ⟨oi, hoi, _⟩ := id it
  obtain ⟨ol, hol, _⟩ := id hl2
  rw [List.drop_zero]
  have ln : (items.toList.take i).length = i := by rw [List.length_take, Array.length_toList]; omega
  rw [if_neg (show ¬ ((items.toList.take i).length < i) by omega)]
  refine wpAny_bind (wpAny_holding (kun_collect (s := { s with heap := g }) (T := "tuple_iterator") (.inr (.inr (.inr rfl))) (Walks.tuple (A := A.in1) hh s.heap.objs.size l far items) (fun j u st => st.1.typeIs) hi ⟨it, hl2⟩ (Heap.lt_size hoi) (Heap.lt_size hol) (fun g2 tk hk => ?_) hz))
  have e0 : i + 1 - 1 - i = 0 := by omega
  show wpAny _ _ (if (items.toList.drop i).length < i + 1 - 1 - i then _ else _) _ _ _
  rw [if_neg (by omega)]
  show wpAny _ _ (newList ((items.toList.drop i).take ((items.toList.drop i).length - (i + 1 - 1 - i))) >>= fun d => pure (items.toList.take i ++ [d] ++ (items.toList.drop i).drop ((items.toList.drop i).length - (i + 1 - 1 - i)))) _ _ _
  rw [e0, Nat.sub_zero, List.take_length, List.drop_length]
  have k : ∀ b o, s.heap.get? b = some o → g2.get? b = some o := fun b o e => hk b o (Nat.ne_of_lt (Heap.lt_size e)) (sb.extBut b o (Nat.ne_of_lt (Heap.lt_size e)) (Heap.get?_push_of_some _ e))
  exact wpAny_bind (wpAny_newList (wpAny_pure (h g2 tk k)) (by rw [List.length_drop, Array.length_toList]; omega))
end
end AL
namespace AL
open PySem PySem.Spec PyProof.Rows L2
/-- a, .., *b = a list, a tuple: i names, then the star -/
def gStar (K : PySem.W.Frag) (i : Nat) (u : TGs) : TG := fun v σ H Q => ∃ a xs, v = .ref a ∧ (SqL K H a xs ∨ SqT K H a xs) ∧ i ≤ xs.length ∧ ∀ D, H D = none → u (xs.take i ++ [.ref D]) σ (upd H D (.lst (xs.drop i))) Q
section
variable {X : Cx} {es : List Expr} {k : Nat} {pos : Pos} {u : TGs} {i : Nat}
theorem vals_take : ∀ {xs : List V} {us : List Value} (n : Nat), Vals xs us → Vals (xs.take n) (us.take n)
  | _, _, 0, _ => .nil
  | _, _, n + 1, .nil => .nil
  | _, _, n + 1, .cons r t => .cons r (vals_take n t)
theorem vals_drop : ∀ {xs : List V} {us : List Value} (n : Nat), Vals xs us → Vals (xs.drop n) (us.drop n)
  | _, _, 0, h => h
  | _, _, n + 1, .nil => .nil
  | _, _, n + 1, .cons _ t => vals_drop n t
theorem pgs_star {e : Expr} {ps : Pos} {es : List Expr} {t : TG} {u : TGs} (h1 : PG X e t) (h2 : PGs X es u) (hs : (assignEach (.Starred e ps :: es) X.env).map (·.2) = assign e X.env :: (assignEach es X.env).map (·.2) := by rfl) : PGs X (.Starred e ps :: es) (gCons t u) := by
  refine ⟨fun pins s σ H vs us Q I r h => ?_⟩
  obtain ⟨v, vr, e1, h⟩ := h
  subst e1
  cases r with
  | cons r rr =>
    rw [hs]
    exact assignInOrder_cons (thn (h1.run pins s σ H _ _ _ I r h) fun _ s1 ⟨σ1, H1, I1, q1⟩ => h2.run pins s1 σ1 H1 _ _ Q I1 rr q1)
theorem pg_star (hc : X.calm = true) (h : PGs X es u) (hn : (assignEach es X.env).length = i + 1 := by rfl) (hst : (assignEach es X.env).findIdx? (·.1) = some i := by rfl) : PG X (.Tuple es k pos) (gStar X.K i u) := by
  refine ⟨fun pins s σ H v w Q I r hw => ?_⟩
  obtain ⟨a, xs, rfl, hq, hi, hw⟩ := hw
  cases r
  have done : ∀ (its : List Value), Vals xs its → xs.length ≤ sizeLine → ∀ (h' : Heap) (tk : Nat), (∀ b o, s.heap.get? b = some o → h'.get? b = some o) →
      wpAny (model X.prog X.w) X.A (assignInOrder ((assignEach es X.env).map (·.2)) (its.toArray.toList.take i ++ [.ref h'.objs.size] ++ [])) (fun _ s' => ∃ σ' H', Inv X pins σ' H' s' ∧ Q σ' H') X.xe { s with heap := h'.push { cls := .type "list", data := .seq (its.toArray.toList.drop i).toArray }, toks := tk } := by
    intro its rv hz h' tk hk
    have I1 : Inv X pins σ H { s with heap := h' } := I.kept (t' := s.toks) hk
    have I2 := I1.lnew (t' := tk) (vals_drop i rv) (by rw [List.length_drop]; omega)
    rw [List.append_nil]
    exact h.run pins _ σ _ (xs.take i ++ [.ref h'.objs.size]) _ Q I2 ((vals_take i rv).append (.cons (show RelV (.ref h'.objs.size) (.ref h'.objs.size) from rfl) .nil)) (hw _ I1.fresh)
  rcases hq with hq | hq
  · obtain ⟨its, rv, pl, hz⟩ := I.list hq
    have hl := rv.length
    rw [assign_Tuple]
    refine wpAny_bind (wpAny_standAt ?_)
    unfold unpack
    rw [hn, hst]
    exact wpAny_bind (wpAny_holding (partsL pl.isList (I.ok.hd hc) (by simp; omega) (by simp; omega) fun h' tk hk => done its rv hz h' tk hk))
  · obtain ⟨its, rv, pt, hz⟩ := I.tuple hq
    have hl := rv.length
    rw [assign_Tuple]
    refine wpAny_bind (wpAny_standAt ?_)
    unfold unpack
    rw [hn, hst]
    exact wpAny_bind (wpAny_holding (partsT pt (I.ok.hd hc) (by simp; omega) (by simp; omega) fun h' tk hk => done its rv hz h' tk hk))
end
end AL
namespace AL
open PySem PySem.Spec PyProof.Rows L2
section
variable {K : PySem.W.Frag} {sl sl2 : Sl} {st : Sto} {b : Cf} {te : TE} {e : DE}
/-- x, .., *r = data: the names before the star at js, the star's at j -/
def starS (sl : Sl) : List Nat → List PyData → Sl
  | j :: js, d :: ds => starS (sl.set j (some (.d d))) js ds
  | _, _ => sl
theorem ws_star1 {i j : Nat} (h : Wx K b te sl st fun x st1 => ∃ d ds, (x = dL (d :: ds) ∨ x = dT (d :: ds)) ∧ e.nx ((sl.set i (some (.d d))).set j (some (dL ds))) st1) : Ws K b (tAsg te (gStar K 1 (gCons (gName i) (gCons (gName j) gNil)))) sl st e := fun b' hb D dk c σ ec tb s S =>
  h c σ ec (hb.trans tb) s S _ fun v c1 x t1 s1 r1 ⟨d, ds, hx, k⟩ => by
  have S1 := t1.ss S
  rcases hx with rfl | rfl
  · cases r1 with
    | @lst a us _ m ea d1 =>
      cases d1 with
      | @cons v0 vs _ _ r0 rs =>
        refine ⟨a, v0 :: vs, rfl, Or.inl (Or.inl (Or.inl ea)), by simp, fun Da hD => ?_⟩
        obtain ⟨t2, s2, n2⟩ := tr_new (o := .lst vs) s1 hD
        refine ⟨v0, [.ref Da], rfl, .ref Da, [], rfl, rfl, ?_⟩
        exact dk.nx _ _ _ ((tb.trans t1).trans t2) s2 (((t2.ss S1).set (t2.rv (x := .d d) r0)).set (x := dL ds) (Dt.lst n2 upd_same (DtA.mono t2.keep _ _ rs))) k
  · obtain ⟨a, us, rfl, h1, d1⟩ := rv_t r1
    cases d1 with
    | @cons v0 vs _ _ r0 rs =>
      refine ⟨a, v0 :: vs, rfl, Or.inr h1, by simp, fun Da hD => ?_⟩
      obtain ⟨t2, s2, n2⟩ := tr_new (o := .lst vs) s1 hD
      refine ⟨v0, [.ref Da], rfl, .ref Da, [], rfl, rfl, ?_⟩
      exact dk.nx _ _ _ ((tb.trans t1).trans t2) s2 (((t2.ss S1).set (t2.rv (x := .d d) r0)).set (x := dL ds) (Dt.lst n2 upd_same (DtA.mono t2.keep _ _ rs))) k
end
end AL

set_option Elab.async false
set_option linter.all false
set_option maxRecDepth 100000
set_option maxHeartbeats 4000000
/-! AL12: zip of two things of any of the kinds list, tuple, text. -/
namespace AL
open PySem PySem.Spec PyProof.Rows L2
/-- one side of a zip: the value v, n items; G: what must be known of the heap; src: the objects behind it; It: an iterator over it stands at place i -/
structure Side (P : Program) (w : World) (K : PySem.W.Frag) (v : V) (n : Nat) (val : Nat → Option V) (G : Hp → Prop) (src : List Addr) (It : Heap → Addr → Nat → Prop) : Prop where
  begins : ∀ (X : Cx) (pins : List (Addr × Obj)) (σ : L2.St) (H : Hp) (s : Shared) (u : Value), X.K = K → Inv X pins σ H s → RelV v u → G H →
    (∀ b ∈ src, b < s.heap.objs.size) ∧ ∃ (o : Obj) (Hs : Heap → Prop), Begins u o Hs ∧ Hs s.heap ∧ ∀ h a, h.get? a = some o → It h a 0
  obj : ∀ h a i, It h a i → ∃ o, h.get? a = some o ∧ ∀ c, o.data ≠ .cell c
  keep : ∀ h h' a i, It h a i → (∀ o, h.get? a = some o → h'.get? a = some o) → It h' a i
  draws : ∀ (X : Cx) (pins : List (Addr × Obj)) (σ : L2.St) (H : Hp) (s : Shared) (i : Nat) (it : Addr), X.prog = P → X.w = w → X.K = K → Inv X pins σ H s → X.A.handled = none → G H → It s.heap it i → it ∉ src →
    ∃ (Pv : Nat → Value → Prop) (St : Nat → Heap → Prop), Draws P w X.A.in1 it (it :: src) n Pv St ∧ St i s.heap ∧ (∀ x, Pv i x → ∃ y, val i = some y ∧ RelV y x) ∧ ∀ h j, St j h → It h it j
section
variable {P : Program} {w : World} {K : PySem.W.Frag}
theorem side_list {a : Addr} {xs : List V} : Side P w K (.ref a) xs.length (fun i => xs[i]?) (fun H => SqL K H a xs) [a] (fun h it i => h.IsListIter it a i) where
  begins := fun X pins σ H s u hK I r g => by
    subst hK
    cases r
    obtain ⟨its, rv, p, _⟩ := I.list g
    exact ⟨fun b hb => by rw [List.mem_singleton.mp hb]; exact p.lt, _, _, begins_list a its.toArray, p.isList, fun h c e => ⟨_, e, rfl, rfl⟩⟩
  obj := fun h c i st => by
    obtain ⟨o, e, _, d⟩ := st
    exact ⟨o, e, fun c q => by rw [d] at q; cases q⟩
  keep := fun h h' c i st k => st.at fun o q => k o q
  draws := fun X pins σ H s i it hP hw hK I hh g st hit => by
    subst hP hw hK
    obtain ⟨its, rv, p, _⟩ := I.list g
    have hl : its.toArray.size = xs.length := by rw [List.size_toArray]; exact rv.length.symm
    have D := Draws.list (prog := X.prog) (w := X.w) (A := X.A.in1) hh it a (fun e => hit (by rw [← e]; exact List.mem_singleton.mpr rfl)) its.toArray
    rw [hl] at D
    refine ⟨_, _, D, ⟨st, p.isList⟩, fun x hx => ?_, fun h j q => q.1⟩
    have hx : its.toArray[i]? = some x := hx
    have hx : its[i]? = some x := by simpa using hx
    exact paired_getR rv i hx
where
  paired_getR {xs : List V} {us : List Value} (r : Vals xs us) (i : Nat) {x : Value} (h : us[i]? = some x) : ∃ y, xs[i]? = some y ∧ RelV y x := by
    induction r generalizing i with
    | nil => cases h
    | cons r _ ih =>
      cases i with
      | zero => cases h; exact ⟨_, rfl, r⟩
      | succ i => exact ih i h
theorem paired_getR {xs : List V} {us : List Value} (r : Vals xs us) (i : Nat) {x : Value} (h : us[i]? = some x) : ∃ y, xs[i]? = some y ∧ RelV y x := by
  induction r generalizing i with
  | nil => cases h
  | cons r _ ih =>
    cases i with
    | zero => cases h; exact ⟨_, rfl, r⟩
    | succ i => exact ih i h
theorem side_tup {a : Addr} {xs : List V} : Side P w K (.ref a) xs.length (fun i => xs[i]?) (fun H => SqT K H a xs) [a] (fun h it i => h.IsTupleIter it a i) where
  begins := fun X pins σ H s u hK I r g => by
    subst hK
    cases r
    obtain ⟨its, rv, p, _⟩ := I.tuple g
    obtain ⟨o, ho, _⟩ := id p
    exact ⟨fun b hb => by rw [List.mem_singleton.mp hb]; exact Heap.lt_size ho, _, _, begins_tuple a its.toArray, (show s.heap.IsTuple a its.toArray from p), fun h c e => ⟨_, e, rfl, rfl⟩⟩
  obj := fun h c i st => by
    obtain ⟨o, e, _, d⟩ := st
    exact ⟨o, e, fun c q => by rw [d] at q; cases q⟩
  keep := fun h h' c i st k => st.at fun o q => k o q
  draws := fun X pins σ H s i it hP hw hK I hh g st hit => by
    subst hP hw hK
    obtain ⟨its, rv, p, _⟩ := I.tuple g
    have hl : its.toArray.size = xs.length := by rw [List.size_toArray]; exact rv.length.symm
    have D := Draws.tuple (prog := X.prog) (w := X.w) (A := X.A.in1) hh it a (fun e => hit (by rw [← e]; exact List.mem_singleton.mpr rfl)) its.toArray
    rw [hl] at D
    refine ⟨_, _, D, ⟨st, (show s.heap.IsTuple a its.toArray from p)⟩, fun x hx => ?_, fun h j q => q.1⟩
    have hx : its.toArray[i]? = some x := hx
    have hx : its[i]? = some x := by simpa using hx
    exact paired_getR rv i hx
theorem side_str {z : Str} : Side P w K (.str z) z.cps.size (fun i => z.cps[i]?.map fun c => V.str ⟨#[c]⟩) (fun _ => True) [] (fun h it i => ∃ t, h.IsStrIter it (strIterType z) z t i) where
  begins := fun X pins σ H s u hK I r g => by
    obtain ⟨t, rfl⟩ := r
    exact ⟨(fun b hb => by cases hb), _, _, begins_text z t, trivial, fun h c e => ⟨t, _, e, rfl, rfl⟩⟩
  obj := fun h c i st => by
    obtain ⟨t, o, e, _, d⟩ := st
    exact ⟨o, e, fun c q => by rw [d] at q; cases q⟩
  keep := fun h h' c i ⟨t, o, e, q⟩ k => ⟨t, o, k o e, q⟩
  draws := fun X pins σ H s i it hP hw hK I hh g st hit => by
    subst hP hw hK
    obtain ⟨t, st⟩ := st
    have D := Draws.text (prog := X.prog) (w := X.w) (A := X.A.in1) hh it z t
    refine ⟨_, _, D, st, fun x hx => ?_, fun h j q => ⟨t, q⟩⟩
    obtain ⟨c, u, h1, rfl⟩ := hx
    exact ⟨.str ⟨#[c]⟩, by rw [h1]; rfl, u, rfl⟩
/-- what a zip of two sides walks: the items in new pairs -/
def ItzS (n1 n2 : Nat) (val1 val2 : Nat → Option V) (G1 G2 : Hp → Prop) : It :=
  ⟨fun i H => i < n1 ∧ i < n2 ∧ G1 H ∧ G2 H, fun i H v H' => ∃ T x y, v = .ref T ∧ H T = none ∧ H' = upd H T (.tup [x, y]) ∧ val1 i = some x ∧ val2 i = some y, fun i H => (i = min n1 n2) ∧ G1 H ∧ G2 H⟩
theorem turn_zipS {v1 v2 : V} {n1 n2 : Nat} {val1 val2 : Nat → Option V} {G1 G2 : Hp → Prop} {src1 src2 : List Addr} {It1 It2 : Heap → Addr → Nat → Prop} (S1 : Side P w K v1 n1 val1 G1 src1 It1) (S2 : Side P w K v2 n2 val2 G2 src2 It2)
    {elts : List Expr} {kk : Nat} {tpos : Pos} {z TI TO i1 i2 : Addr} (d : [z, TI, TO, i1, i2].Nodup) (d1 : ∀ b ∈ src1, b ∉ [z, TI, TO, i1, i2]) (d2 : ∀ b ∈ src2, b ∉ [z, TI, TO, i1, i2]) :
    Turn P w K (.Tuple elts kk tpos) (ItzS n1 n2 val1 val2 G1 G2) [z, TI, TO, i1, i2] z (fun i h => IsZip h z TI TO .none ∧ IsPair h TI (.ref i1) (.ref i2) ∧ (∃ x y, IsPair h TO x y) ∧ It1 h i1 i ∧ It2 h i2 i) := by
  have nz : z ≠ TI ∧ z ≠ TO ∧ z ≠ i1 ∧ z ≠ i2 ∧ TI ≠ TO ∧ TI ≠ i1 ∧ TI ≠ i2 ∧ TO ≠ i1 ∧ TO ≠ i2 ∧ i1 ≠ i2 := by
    simp only [List.nodup_cons, List.mem_cons, List.not_mem_nil, or_false, not_or, not_false_eq_true, List.nodup_nil, and_true] at d
    obtain ⟨⟨a, b, c, e⟩, ⟨f, g, h⟩, ⟨i, j⟩, k⟩ := d
    exact ⟨a, b, c, e, f, g, h, i, j, k⟩
  obtain ⟨a1, a2, a3, a4, a5, a6, a7, a8, a9, a10⟩ := nz
  have n1' : ∀ c ∈ [z, TI, TO, i1, i2], c ∉ src1 := fun c hc hs => d1 c hs hc
  have n2' : ∀ c ∈ [z, TI, TO, i1, i2], c ∉ src2 := fun c hc hs => d2 c hs hc
  have Z : ZipSep2 z TI TO i1 i2 (i1 :: src1) (i2 :: src2) := by
    refine ⟨a1.symm, a2.symm, a5, a6, List.mem_cons_self .., ?_, ?_, a7, List.mem_cons_self .., ?_, ?_, ?_, ?_⟩
    all_goals (rw [List.mem_cons, not_or])
    · exact ⟨a3, n1' z (by simp)⟩
    · exact ⟨a8, n1' TO (by simp)⟩
    · exact ⟨a4, n2' z (by simp)⟩
    · exact ⟨a9, n2' TO (by simp)⟩
    · exact ⟨a10, n2' i1 (by simp)⟩
    · exact ⟨a10.symm, n1' i2 (by simp)⟩
  refine ⟨by simp, fun i h st c hc => ?_, fun i h h' st k => ?_, ?_, ?_, fun A i s Q E st h => wpAny_pyIter_zip st.1 h⟩
  · obtain ⟨hz, hTI, ⟨x, y, hTO⟩, h1, h2⟩ := st
    have e' : c = z ∨ c = TI ∨ c = TO ∨ c = i1 ∨ c = i2 := by simpa using hc
    rcases e' with q | q | q | q | q
    · rw [q]; exact ⟨_, hz, fun v q => nomatch q⟩
    · rw [q]; exact ⟨_, hTI, fun v q => nomatch q⟩
    · rw [q]; exact ⟨_, hTO, fun v q => nomatch q⟩
    · rw [q]; exact S1.obj h i1 i h1
    · rw [q]; exact S2.obj h i2 i h2
  · obtain ⟨hz, hTI, ⟨x, y, hTO⟩, h1, h2⟩ := st
    exact ⟨k z (by simp) _ hz, k TI (by simp) _ hTI, ⟨x, y, k TO (by simp) _ hTO⟩, S1.keep h h' i1 i h1 fun o q => k i1 (by simp) o q, S2.keep h h' i2 i h2 fun o q => k i2 (by simp) o q⟩
  · intro X hP hw hK hc i pins s σ H E I hf st hg
    obtain ⟨hz, hTI, ⟨x0, y0, hTO⟩, h1, h2⟩ := st
    obtain ⟨l1, l2, g1, g2⟩ := hg
    obtain ⟨P1, St1, D1, st1, v1, e1⟩ := S1.draws X pins σ H s i i1 hP hw hK I (I.ok.hd hc) g1 h1 (n1' i1 (by simp))
    obtain ⟨P2, St2, D2, st2, v2, e2⟩ := S2.draws X pins σ H s i i2 hP hw hK I (I.ok.hd hc) g2 h2 (n2' i2 (by simp))
    subst hP hw hK
    have hzl : z < s.heap.objs.size := Heap.lt_size hz
    refine wpAny_pyNext_zipD2_item Z D1 D2 hz hTI hTO st1 st2 l1 l2 fun u u2 h' tk p1 p2 z' TO' s1' s2' hT hsz hk => ?_
    obtain ⟨x, hx, ru⟩ := v1 u p1
    obtain ⟨y, hy, ru2⟩ := v2 u2 p2
    refine ⟨_, rfl, wpAny_letOwnedTupleGo_zip (s := { s with heap := h', toks := tk }) z' fun h'' z'' sb => ?_⟩
    have hT2 : h''.get? s.heap.objs.size = some { cls := .type "tuple", data := .seq #[u, u2] } := (sb.2 _ (Nat.ne_of_gt hzl)).trans hT
    have new : ObjOk X.prog X.w (upd H s.heap.objs.size (.tup [x, y])) h'' s.heap.objs.size (.tup [x, y]) :=
      ⟨by show 2 ≤ sizeLine; decide, [u, u2], .cons ru (.cons ru2 .nil), ⟨_, hT2, rfl, _, rfl⟩⟩
    have I1 : Inv X pins σ (upd H s.heap.objs.size (.tup [x, y])) { s with heap := h'', toks := tk } :=
      I.turnedNew (t' := tk) (ch := [z, TI, TO, i1, i2]) (fun c o hb q => (sb.2 c (fun q' => hb (by simp [q']))).trans (hk c o (fun q' => hb (by simp [q'])) (fun q' => hb (by simp [q'])) (fun q' => hb (by simp [q'])) (fun q' => hb (by simp [q'])) q)) hf (Nat.le_refl _) new
    refine ⟨.ref s.heap.objs.size, _, I1, rfl, ⟨_, x, y, rfl, I.hok.fresh (Nat.le_refl _), rfl, hx, hy⟩, ⟨z'', ?_, ⟨u, u2, ?_⟩, ?_, ?_⟩, fun c hcm => ?_⟩
    · exact (sb.2 _ a1.symm).trans (hk _ _ a1.symm a5 a6 a7 hTI)
    · exact (sb.2 _ a2.symm).trans TO'
    · exact S1.keep _ _ i1 (i + 1) (e1 _ _ s1') fun o q => (sb.2 _ a3.symm).trans q
    · exact S2.keep _ _ i2 (i + 1) (e2 _ _ s2') fun o q => (sb.2 _ a4.symm).trans q
    · have hlt : c < s.heap.objs.size := by
        have e' : c = z ∨ c = TI ∨ c = TO ∨ c = i1 ∨ c = i2 := by simpa using hcm
        rcases e' with q | q | q | q | q
        · rw [q]; exact hzl
        · rw [q]; exact Heap.lt_size hTI
        · rw [q]; exact Heap.lt_size hTO
        · rw [q]; obtain ⟨_, e, _⟩ := S1.obj _ _ _ h1; exact Heap.lt_size e
        · rw [q]; obtain ⟨_, e, _⟩ := S2.obj _ _ _ h2; exact Heap.lt_size e
      rw [upd_ne (Nat.ne_of_lt hlt)]
      exact (hf c hcm).1
  · intro X hP hw hK hc i pins s σ H E I hf st hg
    obtain ⟨hz, hTI, ⟨x0, y0, hTO⟩, h1, h2⟩ := st
    obtain ⟨he, g1, g2⟩ := hg
    obtain ⟨P1, St1, D1, st1, v1, e1⟩ := S1.draws X pins σ H s i i1 hP hw hK I (I.ok.hd hc) g1 h1 (n1' i1 (by simp))
    obtain ⟨P2, St2, D2, st2, v2, e2⟩ := S2.draws X pins σ H s i i2 hP hw hK I (I.ok.hd hc) g2 h2 (n2' i2 (by simp))
    subst hP hw hK
    refine wpAny_pyNext_zipD2_end Z D1 D2 hz hTI hTO st1 st2 (by omega) (by omega) (by omega) fun h' tk hk => ⟨rfl, ?_⟩
    have := I.turnedL (t' := tk) (h' := h') (ch := [z, TI, TO, i1, i2]) (fun c o hb q =>
      hk c o (fun q' => hb (by simp [q'])) (fun q' => hb (by simp [q'])) (fun q' => hb (by simp [q'])) (fun q' => hb (by simp [q'])) q) hf
    exact this
end
end AL

set_option Elab.async false
set_option linter.all false
set_option maxRecDepth 100000
set_option maxHeartbeats 4000000
/-! AL13: zip(e, e2) as an iteration, on data. -/
namespace AL
open PySem PySem.Spec PyProof.Rows L2
def iZipS (P : Program) (w : World) (K : PySem.W.Frag) (ta : TA) : TI := fun σ H R => ta σ H fun vs H1 => ∃ (v1 v2 : V) (n1 n2 : Nat) (val1 val2 : Nat → Option V) (G1 G2 : Hp → Prop) (src1 src2 : List Addr) (It1 It2 : Heap → Addr → Nat → Prop),
  vs = [v1, v2] ∧ Side P w K v1 n1 val1 G1 src1 It1 ∧ Side P w K v2 n2 val2 G2 src2 It2 ∧ G1 H1 ∧ G2 H1 ∧ R (ItzS n1 n2 val1 val2 G1 G2) H1
theorem pi_zipS {X : Cx} {e e2 : Expr} {ta : TA} {p pos tpos : Pos} {elts : List Expr} {kk : Nat} (ha : PA X [e, e2] ta) (hm : X.mg "zip" = none) (hg : Gl X "zip" := by rfl)
    (hs : starEach [e, e2] X.env = (false, eval e X.env) :: starEach [e2] X.env := by rfl) (hpl : (backTo pos (starEach [e2] X.env)).any (·.1) = false := by rfl) :
    PI X (.Tuple elts kk tpos) (.Call (.Name "zip" p) [e, e2] [] pos) (iZipS X.prog X.w X.K ta) := by
  refine ⟨fun pins s σ H R I h => ?_⟩
  refine Call_ (ld_blt I hg hm PyProof.Rows.boot_zip (PyProof.Rows.callWith_type1 (thn (ha.run pos pins s σ H _ I h) fun us s1 ⟨vs, H1, I1, r1, q1⟩ => ?_) hs hpl))
  obtain ⟨v1, v2, n1, n2, val1, val2, G1, G2, src1, src2, It1, It2, rfl, S1, S2, g1, g2, q⟩ := q1
  obtain ⟨u1, u2, rfl, r1, r2⟩ := vals2 r1
  obtain ⟨b1, o1, Hs1, B1, hs1, it1⟩ := S1.begins X pins σ H1 s1 u1 rfl I1 r1 g1
  obtain ⟨b2, o2, Hs2, B2, hs2, it2⟩ := S2.begins X pins σ H1 s1 u2 rfl I1 r2 g2
  refine zip_begins2 B1 B2 hs1 hs2 fun h' hz hTI hTO h1 h2 hsz hk => wpAny_pyIter_zip hz ?_
  have I2 : Inv X pins σ H1 { s1 with heap := h' } := I1.kept (t' := s1.toks) hk
  have far : ∀ b, b < s1.heap.objs.size → b ∉ [s1.heap.objs.size + 4, s1.heap.objs.size + 2, s1.heap.objs.size + 3, s1.heap.objs.size, s1.heap.objs.size + 1] := fun b hb hm => by
    simp only [List.mem_cons, List.not_mem_nil, or_false] at hm
    rcases hm with q | q | q | q | q
    · rw [q] at hb; exact absurd hb (by intro z; exact absurd (Nat.lt_of_le_of_lt (Nat.le_add_right _ _) z) (Nat.lt_irrefl _))
    · rw [q] at hb; exact absurd hb (by intro z; exact absurd (Nat.lt_of_le_of_lt (Nat.le_add_right _ _) z) (Nat.lt_irrefl _))
    · rw [q] at hb; exact absurd hb (by intro z; exact absurd (Nat.lt_of_le_of_lt (Nat.le_add_right _ _) z) (Nat.lt_irrefl _))
    · rw [q] at hb; exact absurd hb (Nat.lt_irrefl _)
    · rw [q] at hb; exact absurd hb (by intro z; exact absurd (Nat.lt_of_le_of_lt (Nat.le_add_right _ _) z) (Nat.lt_irrefl _))
  have nd : [s1.heap.objs.size + 4, s1.heap.objs.size + 2, s1.heap.objs.size + 3, s1.heap.objs.size, s1.heap.objs.size + 1].Nodup := by
    generalize s1.heap.objs.size = n
    have l : ∀ i j : Nat, i ≠ j → n + i ≠ n + j := fun i j h e => h (Nat.add_left_cancel e)
    refine List.nodup_cons.mpr ⟨?_, List.nodup_cons.mpr ⟨?_, List.nodup_cons.mpr ⟨?_, List.nodup_cons.mpr ⟨?_, List.nodup_cons.mpr ⟨by simp, List.nodup_nil⟩⟩⟩⟩⟩
    · simp only [List.mem_cons, List.not_mem_nil, or_false, not_or]
      exact ⟨l 4 2 (by decide), l 4 3 (by decide), l 4 0 (by decide), l 4 1 (by decide)⟩
    · simp only [List.mem_cons, List.not_mem_nil, or_false, not_or]
      exact ⟨l 2 3 (by decide), l 2 0 (by decide), l 2 1 (by decide)⟩
    · simp only [List.mem_cons, List.not_mem_nil, or_false, not_or]
      exact ⟨l 3 0 (by decide), l 3 1 (by decide)⟩
    · simp only [List.mem_cons, List.not_mem_nil, or_false]
      exact l 0 1 (by decide)
  refine ⟨s1.heap.objs.size + 4, [s1.heap.objs.size + 4, s1.heap.objs.size + 2, s1.heap.objs.size + 3, s1.heap.objs.size, s1.heap.objs.size + 1], _, _, H1, rfl, I2, turn_zipS S1 S2 nd (fun b hb => far b (b1 b hb)) (fun b hb => far b (b2 b hb)), ⟨hz, hTI, ⟨_, _, hTO⟩, it1 _ _ h1, it2 _ _ h2⟩, fun c hcm => ?_, q⟩
  have hle : s1.heap.objs.size ≤ c := by
    by_cases hc : s1.heap.objs.size ≤ c
    · exact hc
    · exact absurd hcm (far c (Nat.lt_of_not_le hc))
  exact I1.fpOk hle (I1.hok.fresh hle)
/-! ### on data -/
section
variable {P : Program} {w : World} {K : PySem.W.Frag} {sl : Sl} {st : Sto}
/-- a side of a zip, as data: its items -/
def Zd (P : Program) (w : World) (K : PySem.W.Frag) (x : AV) (xs : List Lf) : Prop := ∀ (c : Cf) (v : V), SR K c → Rv K c v x → ∃ (n : Nat) (val : Nat → Option V) (G : Hp → Prop) (src : List Addr) (It : Heap → Addr → Nat → Prop),
  Side P w K v n val G src It ∧ n = xs.length ∧ (∀ c2, Up c c2 → G c2.hp) ∧ ∀ c2 i y l, Up c c2 → val i = some y → xs[i]? = some l → RvL K c2 y l
theorem zd_list {ds : List PyData} : Zd P w K (dL ds) (ds.map Lf.d) := fun c v s r => by
  cases r with
  | @lst a us _ m ea d1 =>
    refine ⟨_, _, _, _, _, side_list (a := a) (xs := us), by rw [List.length_map]; exact d1.len, fun c2 u => Or.inl (Or.inl (u.keep _ _ m ea).2), fun c2 i y l u hy hl => ?_⟩
    obtain ⟨d, hd, dd⟩ := d1.getV i y hy
    rw [List.getElem?_map, hd] at hl
    cases hl
    exact u.rv (x := .d d) dd
theorem zd_tup {ds : List PyData} : Zd P w K (dT ds) (ds.map Lf.d) := fun c v s r => by
  have fin : ∀ {us : List V}, DtA K c.Alive c.hp us ds → ∀ (c2 : Cf) (i : Nat) (y : V) (l : Lf), Up c c2 → us[i]? = some y → (ds.map Lf.d)[i]? = some l → RvL K c2 y l := by
    intro us d1 c2 i y l u hy hl
    obtain ⟨d, hd, dd⟩ := d1.getV i y hy
    rw [List.getElem?_map, hd] at hl
    cases hl
    exact u.rv (x := .d d) dd
  cases r with
  | @tup a us _ m ea d1 => exact ⟨_, _, _, _, _, side_tup (a := a) (xs := us), by rw [List.length_map]; exact d1.len, fun c2 u => Or.inl (Or.inl (u.keep _ _ m ea).2), fin d1⟩
  | @tupK a us _ ea d1 => exact ⟨_, _, _, _, _, side_tup (a := a) (xs := us), by rw [List.length_map]; exact d1.len, fun c2 u => ea _, fin d1⟩
/-- a written tuple -/
theorem zd_raw {a : Addr} {us : List V} (h : ∀ H, SqT K H a us) : Zd P w K (.raw (.ref a)) (us.map Lf.raw) := fun c v s r => by
  cases r
  refine ⟨_, _, _, _, _, side_tup (a := a) (xs := us), by rw [List.length_map], fun c2 u => h _, fun c2 i y l u hy hl => ?_⟩
  rw [List.getElem?_map, hy] at hl
  cases hl
  rfl
theorem zd_str {z : Str} : Zd P w K (dS z) (z.cps.toList.map fun k => Lf.d (.str (S [k]))) := fun c v s r => by
  cases rv_s r
  refine ⟨_, _, _, _, _, side_str (z := z), by simp, fun c2 u => trivial, fun c2 i y l u hy hl => ?_⟩
  rw [List.getElem?_map, Array.getElem?_toList] at hl
  cases hk : z.cps[i]? with
  | none => rw [hk] at hl; cases hl
  | some k =>
    rw [hk] at hl hy
    cases hl
    cases hy
    exact .str _
theorem ei_zipS {ta : TA} {x1 x2 : AV} {xs1 xs2 : List Lf} (h : Ea K ta sl st [x1, x2]) (z1 : Zd P w K x1 xs1) (z2 : Zd P w K x2 xs2) : Ei K (iZipS P w K ta) sl st ((xs1.zip xs2).map fun q => .p [q.1, q.2]) := fun c σ e s S' R q => h c σ e s S' _ fun vs c1 t1 s1 e1 r1 => by
  obtain ⟨v1, v2, rfl, r1, r2⟩ := rvs2 r1
  obtain ⟨n1, val1, G1, src1, It1, S1, l1, g1, p1⟩ := z1 c1 v1 s1 r1
  obtain ⟨n2, val2, G2, src2, It2, S2, l2, g2, p2⟩ := z2 c1 v2 s1 r2
  have hl : ((xs1.zip xs2).map fun q => AV.p [q.1, q.2]).length = min n1 n2 := by rw [List.length_map, List.length_zip, l1, l2]
  have U0 : Up c1 c1 := (Tr.refl c1).up
  refine ⟨v1, v2, n1, n2, val1, val2, G1, G2, src1, src2, It1, It2, rfl, S1, S2, g1 c1 U0, g2 c1 U0, q _ c1 t1 s1 e1 ⟨fun c2 i u s hi => ?_, fun c2 u s => ?_, fun c2 i x v H' u s hx hy => ?_⟩⟩
  · rw [hl] at hi
    exact ⟨by omega, by omega, g1 c2 u, g2 c2 u⟩
  · exact ⟨hl, g1 c2 u, g2 c2 u⟩
  · obtain ⟨T, y1, y2, rfl, hT, rfl, h1, h2⟩ := hy
    rw [List.getElem?_map] at hx
    cases hz : (xs1.zip xs2)[i]? with
    | none => rw [hz] at hx; cases hx
    | some q =>
      obtain ⟨a, b⟩ := q
      rw [hz] at hx
      cases hx
      obtain ⟨ha, hb⟩ := List.getElem?_zip_eq_some.mp hz
      obtain ⟨t2, s2, n2⟩ := tr_new (o := .tup [y1, y2]) s hT
      exact ⟨c2.new T (.tup [y1, y2]), rfl, rfl, t2, s2, T, [y1, y2], rfl, n2, upd_same, .cons (t2.rvL (p1 c2 i y1 a u h1 ha)) (.cons (t2.rvL (p2 c2 i y2 b u h2 hb)) .nil)⟩
end
end AL

set_option Elab.async false
set_option linter.all false
set_option maxRecDepth 100000
set_option maxHeartbeats 4000000
/-! AL14: further rules on data: truth, or, texts repeated, repr, lists changed in place, written tables, calls of a held def. -/
namespace AL
open PySem PySem.Spec PyProof.Rows L2
section
variable {K : PySem.W.Frag} {b : Cf} {sl : Sl} {st : Sto} {te ta tb : TE} {x y z : AV} {e : DE}
/-! ### truth -/
def truD : PyData → Bool
  | .none => false
  | .bool b => b
  | .int i => i != 0
  | .str z => (z.length : Int) != 0
  | .list xs => !xs.isEmpty
  | .tuple xs => !xs.isEmpty
  | .dict _ => false
def smallD : PyData → Prop
  | .str z => z.length ≤ 10000000
  | _ => True
theorem isE {α β : Type} {l : List α} {m : List β} (h : l.length = m.length) : (!l.isEmpty) = !m.isEmpty := by
  cases l <;> cases m <;> simp at h ⊢
theorem tru_rv {c : Cf} {v : V} : ∀ {x : PyData}, smallD x → Rv K c v (.d x) → TruV K v c.hp (truD x)
  | .none, _, r => by cases r; rfl
  | .bool _, _, r => by cases r; rfl
  | .int _, _, r => by cases r; rfl
  | .str z, h, r => by cases r; exact ⟨Nat.le_trans h (by decide), rfl⟩
  | .list ds, _, r => by
    obtain ⟨a, us, rfl, h1, d1⟩ := rv_l r
    exact Or.inl ⟨us, Or.inl (Or.inl h1), (isE d1.len).symm⟩
  | .tuple ds, _, r => by
    obtain ⟨a, us, rfl, h1, d1⟩ := rv_t r
    exact Or.inr (Or.inl ⟨us, h1, (isE d1.len).symm⟩)
  | .dict _, _, r => by cases r
theorem et_tru {d : PyData} (h : Ev K te sl st (.d d)) (hs : smallD d := by trivial) : Et K (fun σ H Q => te σ H fun x H' => ∃ k, TruV K x H' k ∧ Q k H') sl st (truD d) := fun c σ e s S Q q =>
  h c σ e s S _ fun v c1 t1 s1 e1 r1 => ⟨_, tru_rv hs r1, q c1 t1 s1 e1⟩
/-- e or f, by truth -/
theorem ev_orT {d : PyData} (h : Ev K ta sl st (.d d)) (hs : smallD d) (h2 : truD d = false → Ev K tb sl st x) (h1 : truD d = true → x = .d d) : Ev K (tOrT K ta tb) sl st x := fun c σ e s S Q q =>
  h c σ e s S _ fun v c1 t1 s1 e1 r1 => ⟨truD d, tru_rv hs r1, by
    cases hd : truD d with
    | true =>
      rw [if_pos rfl]
      exact q v c1 t1 s1 e1 (by rw [h1 hd]; exact r1)
    | false =>
      rw [if_neg (by decide)]
      exact h2 hd c1 σ e1 s1 (t1.ss S) Q fun w c2 t2 s2 e2 r2 => q w c2 (t1.trans t2) s2 e2 r2⟩
/-! ### one-place operations -/
theorem ev_neg {i : Int} (h : Ev K te sl st (dI i)) : Ev K (tUn (rU fun i => .int (-i)) te) sl st (dI (-i)) := fun c σ e s S Q q => h c σ e s S _ fun v c1 t1 s1 e1 r1 => ⟨i, rv_i r1, q _ c1 t1 s1 e1 (.int _)⟩
/-! ### texts repeated -/
def rMUL : R2 := fun x y H Q => (∃ i j, x = .int i ∧ y = .int j ∧ CMul i j ∧ Q (.int (i * j)) H) ∨ ∃ (z : Str) (n : Nat), x = .str z ∧ y = .int n ∧ n ≤ 1000 ∧ z.length ≤ 1000 ∧ Q (.str (Txt.mul z n)) H
theorem op_MUL {X : Cx} : OpR X (binaryOp .Mult) rMUL := by
  intro pins s σ H x y v u Q I rx ry h
  rcases h with h | ⟨z, n, rfl, rfl, hn, hz, q⟩
  · exact op_mul pins s σ H x y v u Q I rx ry h
  · obtain ⟨t, rfl⟩ := rx
    obtain ⟨t2, rfl⟩ := ry
    exact PySem.SB.mul (mulOk_of 1000 1000 hz (by omega) (by omega) (by decide) (by decide)) fun t' k => ⟨.str _, H, I.tok _, ⟨_, rfl⟩, q⟩
theorem o_mulS {z : Str} {n : Nat} (hn : n ≤ 1000) (hz : z.length ≤ 1000) : Op K rMUL (dS z) (dI n) st (dS (Txt.mul z n)) := fun c v w e s r1 r2 Q q =>
  Or.inr ⟨z, n, rv_s r1, rv_i r2, hn, hz, q _ c (Tr.refl c) s e (.str _)⟩
theorem o_mulI {i j : Int} (h : CMul i j) : Op K rMUL (dI i) (dI j) st (dI (i * j)) := fun c v w e s r1 r2 Q q => Or.inl ⟨i, j, rv_i r1, rv_i r2, h, q _ c (Tr.refl c) s e (.int _)⟩
/-! ### repr -/
def rREPR (K : PySem.W.Frag) : List V → Hp → VK → Prop := fun xs H Q => ∃ x d, xs = [x] ∧ Dp K H x d ∧ d.showable = true ∧ d.depth ≤ 60 ∧ d.shown.length ≤ sizeLine ∧ Q (.str d.shown) H
theorem noDictP : ∀ {d : PyData} {K : PySem.W.Frag} {H : Hp} {v : V}, Dp K H v d → d.hasDict = false
  | .none, _, _, _, _ => by simp only [PyData.hasDict]
  | .bool _, _, _, _, _ => by simp only [PyData.hasDict]
  | .int _, _, _, _, _ => by simp only [PyData.hasDict]
  | .str _, _, _, _, _ => by simp only [PyData.hasDict]
  | .list ds, _, _, _, h => by
    cases h with
    | lst _ a =>
      simp only [PyData.hasDict]
      exact go a
  | .tuple ds, _, _, _, h => by
    cases h with
    | tup _ a =>
      simp only [PyData.hasDict]
      exact go a
  | .dict _, _, _, _, h => by cases h
where
  go : ∀ {ds : List PyData} {K : PySem.W.Frag} {H : Hp} {vs : List V}, DpAll K H vs ds → PyData.hasDictAll ds = false
  | [], _, _, _, _ => by simp only [PyData.hasDictAll]
  | d :: ds, _, _, _, h => by
    cases h with
    | cons h1 h2 =>
      simp only [PyData.hasDictAll, noDictP h1, go h2, Bool.or_self]
theorem call_REPR {X : Cx} (hg : X.A.guards = some []) (hu : X.A.units + 64 < cLine) : CallR X (.builtin "repr") (rREPR X.K) := by
  intro pins s σ H xs us Q I r h
  obtain ⟨x, d, rfl, dp, hs, hd, hz, q⟩ := h
  obtain ⟨u, rfl, rx⟩ := vals1 r
  obtain ⟨as, rd⟩ := Dp.reads I d x u dp rx
  have fin : ∀ a, u = .ref a → wpAny (model X.prog X.w) X.A (call (.builtin "repr") [u]) (EP X pins σ Q) X.xe s := fun a e => by
    subst e
    exact repr_of_reads' rd hs (PyData.noDict_hsm (noDictP dp)) hg (by omega) (fun _ _ e => e) (fun h' u tk hk => ⟨.str _, H, I.kept (t' := tk) hk, ⟨_, rfl⟩, q⟩) hz
  cases dp with
  | non =>
    cases rx
    simp only [PyData.shown] at q
    exact PySem.P.repr_of_none ⟨.str _, H, I.tok _, ⟨_, rfl⟩, q⟩
  | bl b =>
    cases rx
    simp only [PyData.shown] at q
    exact PySem.P.repr_of_bool ⟨.str _, H, I.tok _, ⟨_, rfl⟩, q⟩
  | int i =>
    obtain ⟨t, rfl⟩ := rx
    simp only [PyData.shown] at q
    exact PySem.P.repr_of_int (by simpa [PyData.showable] using hs) ⟨.str _, H, I.tok _, ⟨_, rfl⟩, q⟩
  | str z =>
    obtain ⟨t, rfl⟩ := rx
    simp only [PyData.shown] at q hz
    exact PySem.P.repr_of_str ⟨.str _, H, I.tok _, ⟨_, rfl⟩, q⟩ hz
  | @lst a _ _ _ _ => exact fin a rx
  | @tup a _ _ _ _ => exact fin a rx
theorem o_repr {d : PyData} (h1 : d.showable = true) (h2 : d.depth ≤ 60) (h3 : d.shown.length ≤ sizeLine) : Oc K (rREPR K) [.d d] st (dS d.shown) := fun c vs e s r Q q => by
  obtain ⟨v, rfl, r0⟩ := rvs1 r
  exact ⟨v, d, rfl, Dt.dp _ _ r0, h1, h2, h3, q _ c (Tr.refl c) s e (.str _)⟩
/-! ### a named list changed in place -/
theorem ws_asgG {g : TG} (h : Wx K b te sl st fun x st1 => ∃ sl' js, Eg K g sl x sl' js ∧ e.nx sl' st1) : Ws K b (tAsg te g) sl st e := fun b' hb D d c σ ec tb s S => h c σ ec (hb.trans tb) s S _ fun v c1 x t1 s1 r1 ⟨sl', js, hg, k⟩ =>
  hg c1 σ v s1 (t1.ss S) r1 _ fun σ' S' _ => d.nx c1 σ' sl' (tb.trans t1) s1 S' k
theorem rvs_get {c : Cf} {x : AV} : ∀ {us : List V} {xs : List AV} (j : Nat), Rvs K c us xs → xs[j]? = some x → ∃ u, us[j]? = some u ∧ Rv K c u x
  | _, _, j, .nil, h => by cases j <;> cases h
  | _, _, 0, .cons r _, h => by cases h; exact ⟨_, rfl, r⟩
  | _, _, j + 1, .cons _ t, h => rvs_get j t h
theorem rvs_set {c : Cf} {x : AV} {v : V} : ∀ {us : List V} {xs : List AV} (j : Nat), Rvs K c us xs → Rv K c v x → Rvs K c (us.set j v) (xs.set j x)
  | _, _, _, .nil, _ => .nil
  | _, _, 0, .cons _ t, r => .cons r t
  | _, _, j + 1, .cons r0 t, r => .cons r0 (rvs_set j t r)
/-- l[i] = e, l a named list -/
theorem ws_setL {n : Nat} {to ti : TE} {te : TE} (h : Wx K b te sl st fun x st1 => ∃ (i : Int) (j : Nat) (xs : List AV), Ev K to sl st1 (.o n) ∧ Ev K ti sl st1 (dI i) ∧ st1[n]? = some (.lst xs) ∧ ixN xs.length i = some j ∧ e.nx sl (st1.set n (.lst (xs.set j x)))) :
    Ws K b (tAsg te (gSub to ti rSetL)) sl st e := fun b' hb D d c σ ec tb s S => h c σ ec (hb.trans tb) s S _ fun v c1 x t1 s1 r1 ⟨i, j, xs, ho, hi, hn, hj, k⟩ =>
  ho c1 σ rfl s1 (t1.ss S) _ fun vo c2 t2 s2 e2 r2 => hi c2 σ e2 s2 ((t1.trans t2).ss S) _ fun vi c3 t3 s3 e3 r3 => by
  obtain ⟨a, ia, rfl⟩ := t3.rv (x := .o n) r2
  cases rv_i r3
  have hn3 : c3.st[n]? = some (.lst xs) := by rw [e3]; exact hn
  obtain ⟨us, h1, d1⟩ := s3.ob n a _ ia hn3
  have hl : us.length = xs.length := d1.length
  refine ⟨a, us, i, j, rfl, rfl, h1, by rw [hl]; exact hj, ?_⟩
  have T := ((tb.trans t1).trans t2).trans t3
  have t4 := tr_put (ho := .lst (us.set j v)) (o := .lst (xs.set j x)) s3 ia hn3 (by intro z; cases z)
  have s4 : SR K (c3.put n a (.lst (us.set j v)) (.lst (xs.set j x))) := sr_put s3 ia hn3 (by intro z; cases z) ⟨_, upd_same, rvs_set j (t4.rvs d1) (((t2.trans t3).trans t4).rv r1)⟩
  exact d.nx (c3.put n a (.lst (us.set j v)) (.lst (xs.set j x))) σ sl (T.trans t4) s4 ((((t1.trans t2).trans t3).trans t4).ss S) (by
    show e.nx sl (c3.st.set n _)
    rw [e3]; exact k)
/-- l.append(e), l a named list -/
theorem ws_app {n : Nat} {to : TE} (ho : Ev K to sl st (.o n)) (h : Wx K b te sl st fun x st1 => ∃ xs : List AV, st1[n]? = some (.lst xs) ∧ xs.length ≤ 10000000 ∧ e.nx sl (st1.set n (.lst (xs ++ [x])))) (hs : ∃ ys, st[n]? = some (.lst ys)) :
    Ws K b (tDrop (tBM K "list" rAppend to (tCons te tNil))) sl st e := fun b' hb D d c σ ec tb s S =>
  ho c σ ec s S _ fun vo c1 t1 s1 e1 r1 => by
  obtain ⟨a, ia, rfl⟩ := r1
  obtain ⟨ys, hy⟩ := hs
  obtain ⟨us0, h0, _⟩ := s1.ob n a _ ia (by rw [e1]; exact hy)
  refine ⟨Or.inl ⟨rfl, us0, Or.inl (Or.inl h0)⟩, h c1 σ e1 ((hb.trans tb).trans t1) s1 (t1.ss S) _ fun v c2 x t2 s2 r2 ⟨xs, hn, hz, k⟩ => ?_⟩
  have ia2 := t2.idx ia
  obtain ⟨us, h1, d1⟩ := s2.ob n a _ ia2 hn
  have hl : us.length = xs.length := d1.length
  refine ⟨a, us, v, rfl, rfl, h1, Nat.lt_of_le_of_lt (by rw [hl]; exact hz) (by rw [sizeLine_eq]; decide), ?_⟩
  have t4 := tr_put (ho := .lst (us ++ [v])) (o := .lst (xs ++ [x])) s2 ia2 hn (by intro z; cases z)
  have s4 : SR K (c2.put n a (.lst (us ++ [v])) (.lst (xs ++ [x]))) := sr_put s2 ia2 hn (by intro z; cases z) ⟨_, upd_same, paired_app (t4.rvs d1) (.cons (t4.rv r2) .nil)⟩
  exact d.nx (c2.put n a (.lst (us ++ [v])) (.lst (xs ++ [x]))) σ sl (((tb.trans t1).trans t2).trans t4) s4 (((t1.trans t2).trans t4).ss S) k
/-! ### written tables with text keys -/
def rNotInF (K : PySem.W.Frag) (d : Addr) : R2 := fun x y H Q => ∃ (z : Str) (r : Option Value), x = .str z ∧ y = .ref d ∧ PySem.W.nsIn K d z = some r ∧ Q (.bl (!r.isSome)) H
theorem o_notInF {d : Addr} {z : Str} {r : Option Value} (h : PySem.W.nsIn K d z = some r) : Op K (rNotInF K d) (dS z) (.raw (.ref d)) st (dB (!r.isSome)) := fun c v w e s r1 r2 Q q =>
  ⟨z, r, rv_s r1, r2, h, q _ c (Tr.refl c) s e (.bl _)⟩
theorem o_ixF {w : World} {d : Addr} {z : Str} {v0 : V} (h : KDct K w d z v0) : Op K (rIxD K w) (.raw (.ref d)) (dS z) st (.raw v0) := fun c v w' e s r1 r2 Q q =>
  ⟨d, z, v0, r1, rv_s r2, h, q _ c (Tr.refl c) s e rfl⟩
theorem o_lenK {a : Addr} {us : List V} (h : ∀ H, SqT K H a us) : Oc K (rLEN K) [.raw (.ref a)] st (dI us.length) := fun c vs e s r Q q => by
  obtain ⟨v, rfl, r0⟩ := rvs1 r
  cases r0
  exact ⟨_, us.length, rfl, Or.inr ⟨us, h _, rfl⟩, q _ c (Tr.refl c) s e (.int _)⟩
/-! ### a def held in a slot -/
structure HeldD (P : Program) (w : World) (K : PySem.W.Frag) (mg : Str → Option Value) (base : Heap) (k : Nat) (f : Addr) (sp : Sp) : Prop where
  ex : ∃ (fd : FuncData) (ps : List Str), FnOk P w K mg base (L2.CX P w) k f fd ps sp ∧ PySem.W.keepIn K (.ref f) = true ∧ Binds K fd ps []
def tCallH (i : Nat) (S : Addr → Option DS) (K : PySem.W.Frag) (W : WX) (t : TA) : TE := fun σ H Q => ∃ f F, σ[i]? = some (some (.ref f)) ∧ S f = some F ∧ t σ H fun vs H1 => spD K F vs H1 Q (wE W σ)
theorem pe_callH {X : Cx} {k j i : Nat} {S : Addr → Option DS} {W : WX} {x : Str} {p pos : Pos} {ex : Expr} {es : List Expr} {t : TA} (A : ∀ f F, S f = some F → HeldD X.prog X.w X.K X.mg X.base k f (spD X.K F)) (hr : Room j X.A) (tk : Takes X W) (ha : PA X (ex :: es) t) (hk : k ≤ j := by decide)
    (hN : X.N[i]? = some x := by rfl) (hv : Vis X.env.scope x := by first | exact Or.inl rfl | exact Or.inr (Or.inl rfl) | exact Or.inr (Or.inr rfl))
    (hdb : (x == ("__debug__" : Str)) = false := by decide) (hcd : (x == ("__classdict__" : Str)) = false := by decide)
    (he : starEach (ex :: es) X.env = (false, eval ex X.env) :: starEach es X.env := by rfl) (hpl : (backTo pos (starEach es X.env)).any (·.1) = false := by rfl) : PE X (.Call (.Name x p) (ex :: es) [] pos) (tCallH i S X.K W t) := by
  refine ⟨fun pins s σ H Q I h => ?_⟩
  obtain ⟨f, F, hs, hS, ht⟩ := h
  obtain ⟨fd, ps, FF, hkp, hb⟩ := (A f F hS).ex
  refine wpAny_Call_Name_kw (thn ((pe_var (pos := p) hN hv hdb hcd).run pins s σ H (fun v H1 => v = .ref f ∧ H1 = H) I ⟨.ref f, hs, rfl, rfl⟩) fun u s1 ⟨v, H1, I1, r1, q1⟩ => ?_)
  obtain ⟨rfl, rfl⟩ := q1
  cases r1
  refine PySem.W.callWith_K (h₀ := X.base) I.ok.mod.kin hkp (thn (ha.run pos pins s1 σ _ _ I1 ht) fun us s2 ⟨vs, H2, I2, r, q⟩ => ⟨I2.kIn, ?_⟩) he hpl
  have := run_w (us := us) (vs := vs) (dvs := []) (ds := []) FF (hr.mono hk) hb .nil tk I2 r (by rw [List.append_nil]; exact q)
  exact this
theorem ev_callH {i : Nat} {f : Addr} {S : Addr → Option DS} {F : DS} {W : WX} {ta : TA} {xs : List AV} (hi : sl[i]? = some (some (.raw (.ref f)))) (hS : S f = some F) (ha : Ea K ta sl st xs) (hf : F xs st (fun y st' => y = x ∧ st' = st) (fun _ _ => False)) : Ev K (tCallH i S K W ta) sl st x := fun c σ e s S' Q q => by
  obtain ⟨v, h1, h2⟩ := S'.2 i _ hi
  cases h2
  refine ⟨f, F, h1, hS, ha c σ e s S' _ fun vs c1 t1 s1 e1 r1 => ⟨c1, xs, _, _, rfl, s1, r1, by rw [e1]; exact hf, fun v c2 y t2 s2 r2 k => ?_, fun cls d c2 a t2 s2 r2 k => False.elim k⟩⟩
  obtain ⟨k1, k2⟩ := k
  subst k1
  exact q v c2 (t1.trans t2) s2 k2 r2
end
end AL

set_option Elab.async false
set_option linter.all false
set_option maxRecDepth 100000
set_option maxHeartbeats 4000000
/-! AL15: named dicts with int and text keys. -/
namespace AL
open PySem PySem.Spec PyProof.Rows L2
def valA (kvs : List (Key × AV)) (k : Key) : Option AV := (kvs.find? fun kv => decide (kv.1 = k)).map (·.2)
def putA (kvs : List (Key × AV)) (k : Key) (v : AV) : List (Key × AV) := if (kvs.any fun kv => decide (kv.1 = k)) = true then kvs.map (fun kv => if kv.1 = k then (kv.1, v) else kv) else kvs ++ [(k, v)]
def mergeA (kvs more : List (Key × AV)) : List (Key × AV) := more.foldl (fun acc kv => putA acc kv.1 kv.2) kvs
/-- a key as data -/
def kD : Key → PyData
  | .inl i => .int i
  | .inr z => .str z
section
variable {K : PySem.W.Frag} {b : Cf} {sl : Sl} {st : Sto} {te td ty tv : TE} {x y z : AV} {e : DE} {c : Cf}
theorem rk_any (k : Key) : ∀ {ws : List (Key × V)} {kvs : List (Key × AV)}, Rk K c ws kvs → (ws.any fun kv => decide (kv.1 = k)) = (kvs.any fun kv => decide (kv.1 = k))
  | _, _, .nil => rfl
  | (_, _) :: _, (_, _) :: _, .cons r t => by
    have e := r.1
    simp only [List.any_cons, rk_any k t] at e ⊢
    rw [e]
theorem rk_val (k : Key) : ∀ {ws : List (Key × V)} {kvs : List (Key × AV)}, Rk K c ws kvs → match valA kvs k with
    | some x => ∃ v, valV ws k = some v ∧ Rv K c v x
    | none => valV ws k = none
  | _, _, .nil => rfl
  | (k1, v1) :: ws, (k2, x2) :: kvs, .cons r t => by
    obtain ⟨r1, r2⟩ := r
    have r1 : k1 = k2 := r1
    subst r1
    have ih := rk_val k t
    unfold valA valV at ih ⊢
    by_cases h : k1 = k
    · subst h
      simp only [List.find?_cons, decide_true, Option.map_some]
      exact ⟨v1, rfl, r2⟩
    · simp only [List.find?_cons, h, decide_false]
      exact ih
theorem rk_put (k : Key) {v : V} {x : AV} (rv : Rv K c v x) {ws : List (Key × V)} {kvs : List (Key × AV)} (r : Rk K c ws kvs) : Rk K c (putK ws k v) (putA kvs k x) := by
  have m : ∀ {ws : List (Key × V)} {kvs : List (Key × AV)}, Rk K c ws kvs → Rk K c (ws.map fun kv => if kv.1 = k then (kv.1, v) else kv) (kvs.map fun kv => if kv.1 = k then (kv.1, x) else kv) := by
    intro ws kvs r
    induction r with
    | nil => exact .nil
    | @cons p q _ _ h _ ih =>
      obtain ⟨h1, h2⟩ := h
      refine .cons ?_ ih
      dsimp only
      by_cases hk : p.1 = k
      · rw [if_pos hk, if_pos (h1 ▸ hk)]
        exact ⟨h1, rv⟩
      · rw [if_neg hk, if_neg (h1 ▸ hk)]
        exact ⟨h1, h2⟩
  unfold putK putA
  rw [rk_any k r]
  by_cases h : (kvs.any fun kv => decide (kv.1 = k)) = true
  · rw [if_pos h, if_pos h]
    exact m r
  · rw [if_neg h, if_neg h]
    exact paired_app r (.cons ⟨rfl, rv⟩ .nil)
theorem kd_rv {v : V} {k : Key} (r : Rv K c v (.d (kD k))) : v = kV k := by
  cases k with
  | inl i => exact rv_i r
  | inr s => exact rv_s r
/-- d[k] -/
theorem ev_dget {n : Nat} {k : Key} {kvs : List (Key × AV)} (hd : Ev K td sl st (.o n)) (hk : Ev K ty sl st (.d (kD k))) (hn : st[n]? = some (.dk kvs)) (hv : valA kvs k = some x) : Ev K (tDGet td ty) sl st x := fun c σ e s S Q q =>
  hd c σ e s S _ fun v c1 t1 s1 e1 r1 => hk c1 σ e1 s1 (t1.ss S) _ fun w c2 t2 s2 e2 r2 => by
  obtain ⟨a, ia, rfl⟩ := t2.rv (x := .o n) r1
  obtain ⟨ws, h1, d1⟩ := s2.ob n a _ ia (by rw [e2]; exact hn)
  have hh := rk_val k d1
  rw [hv] at hh
  obtain ⟨u, hu, ru⟩ := hh
  exact ⟨a, u, rfl, Or.inl ⟨ws, k, Or.inl h1, kd_rv r2, hu.symm⟩, q u c2 (t1.trans t2) s2 e2 ru⟩
/-- k in d, k not in d -/
theorem ev_din {n : Nat} {k : Key} {kvs : List (Key × AV)} (hk : Ev K ty sl st (.d (kD k))) (hd : Ev K td sl st (.o n)) (hn : st[n]? = some (.dk kvs)) : Ev K (tDIn ty td) sl st (dB (valA kvs k).isSome) := fun c σ e s S Q q =>
  hk c σ e s S _ fun w c1 t1 s1 e1 r1 => hd c1 σ e1 s1 (t1.ss S) _ fun v c2 t2 s2 e2 r2 => by
  obtain ⟨a, ia, rfl⟩ := r2
  obtain ⟨ws, h1, d1⟩ := s2.ob n a _ ia (by rw [e2]; exact hn)
  have hh := rk_val k d1
  refine ⟨a, valV ws k, rfl, Or.inl ⟨ws, k, Or.inl h1, kd_rv (t2.rv (x := .d (kD k)) r1), rfl⟩, ?_⟩
  have e3 : (valV ws k).isSome = (valA kvs k).isSome := by
    cases hv : valA kvs k with
    | none => rw [hv] at hh; rw [hh]; rfl
    | some x => rw [hv] at hh; obtain ⟨u, hu, _⟩ := hh; rw [hu]; rfl
  rw [e3]
  exact q _ c2 (t1.trans t2) s2 e2 (.bl _)
theorem ev_dnotin {n : Nat} {k : Key} {kvs : List (Key × AV)} (hk : Ev K ty sl st (.d (kD k))) (hd : Ev K td sl st (.o n)) (hn : st[n]? = some (.dk kvs)) : Ev K (tDNotIn ty td) sl st (dB (!(valA kvs k).isSome)) := fun c σ e s S Q q =>
  hk c σ e s S _ fun w c1 t1 s1 e1 r1 => hd c1 σ e1 s1 (t1.ss S) _ fun v c2 t2 s2 e2 r2 => by
  obtain ⟨a, ia, rfl⟩ := r2
  obtain ⟨ws, h1, d1⟩ := s2.ob n a _ ia (by rw [e2]; exact hn)
  have hh := rk_val k d1
  refine ⟨a, valV ws k, rfl, Or.inl ⟨ws, k, Or.inl h1, kd_rv (t2.rv (x := .d (kD k)) r1), rfl⟩, ?_⟩
  have e3 : (valV ws k).isSome = (valA kvs k).isSome := by
    cases hv : valA kvs k with
    | none => rw [hv] at hh; rw [hh]; rfl
    | some x => rw [hv] at hh; obtain ⟨u, hu, _⟩ := hh; rw [hu]; rfl
  rw [e3]
  exact q _ c2 (t1.trans t2) s2 e2 (.bl _)
/-- d[k] = e -/
theorem ws_dput {n : Nat} (h : Wx K b tv sl st fun x st1 => ∃ (k : Key) (kvs : List (Key × AV)), Ev K td sl st1 (.o n) ∧ Ev K ty sl st1 (.d (kD k)) ∧ st1[n]? = some (.dk kvs) ∧ kvs.length ≤ 10000000 ∧ e.nx sl (st1.set n (.dk (putA kvs k x)))) :
    Ws K b (sDPut td ty tv) sl st e := fun b' hb D d c σ ec tb s S => h c σ ec (hb.trans tb) s S _ fun v c1 x t1 s1 r1 ⟨k, kvs, ho, hk, hn, hz, q⟩ =>
  ho c1 σ rfl s1 (t1.ss S) _ fun vo c2 t2 s2 e2 r2 => hk c2 σ e2 s2 ((t1.trans t2).ss S) _ fun vi c3 t3 s3 e3 r3 => by
  obtain ⟨a, ia, rfl⟩ := t3.rv (x := .o n) r2
  have hn3 : c3.st[n]? = some (.dk kvs) := by rw [e3]; exact hn
  obtain ⟨ws, h1, d1⟩ := s3.ob n a _ ia hn3
  have hl : ws.length = kvs.length := d1.length
  have t4 := tr_put (ho := .dK (putK ws k v)) (o := .dk (putA kvs k x)) s3 ia hn3 (by intro z; cases z)
  have s4 : SR K (c3.put n a (.dK (putK ws k v)) (.dk (putA kvs k x))) := sr_put s3 ia hn3 (by intro z; cases z) ⟨_, upd_same, rk_put k (((t2.trans t3).trans t4).rv r1) (paired_imp (fun _ _ r => ⟨r.1, t4.rv r.2⟩) d1)⟩
  refine ⟨a, _, rfl, Or.inl ⟨ws, k, h1, kd_rv r3, Nat.lt_of_le_of_lt (by rw [hl]; exact hz) (by rw [sizeLine_eq]; decide), rfl⟩, ?_⟩
  exact d.nx (c3.put n a (.dK (putK ws k v)) (.dk (putA kvs k x))) σ sl ((((tb.trans t1).trans t2).trans t3).trans t4) s4 ((((t1.trans t2).trans t3).trans t4).ss S) (by
    show e.nx sl (c3.st.set n _)
    rw [e3]; exact q)
/-- the pairs of a display -/
inductive EvP (K : PySem.W.Frag) (sl : Sl) (st : Sto) : List (TE × TE) → List (Key × AV) → Prop
  | nil : EvP K sl st [] []
  | cons {tk tv : TE} {k : Key} {x : AV} {trs : List (TE × TE)} {ps : List (Key × AV)} : Ev K tk sl st (.d (kD k)) → Ev K tv sl st x → EvP K sl st trs ps → EvP K sl st ((tk, tv) :: trs) ((k, x) :: ps)
theorem evp_run {trs : List (TE × TE)} {ps : List (Key × AV)} (h : EvP K sl st trs ps) : ∀ (c : Cf) (σ : L2.St), c.st = st → SR K c → SS K c σ sl → ∀ Q : List (V × V) → Hp → Prop,
    (∀ (ws : List (Key × V)) c', Tr c c' → SR K c' → c'.st = st → Rk K c' ws ps → Q (ws.map fun kv => (kV kv.1, kv.2)) c'.hp) → tPairs trs σ c.hp Q := by
  induction h with
  | nil => exact fun c σ e s S Q q => q [] c (Tr.refl c) s e .nil
  | @cons tk tv k x trs ps h1 h2 _ ih =>
    intro c σ e s S Q q
    refine h1 c σ e s S _ fun u c1 t1 s1 e1 r1 => h2 c1 σ e1 s1 (t1.ss S) _ fun v c2 t2 s2 e2 r2 => ih c2 σ e2 s2 ((t1.trans t2).ss S) _ fun ws c3 t3 s3 e3 r3 => ?_
    have := q ((k, v) :: ws) c3 ((t1.trans t2).trans t3) s3 e3 (.cons ⟨rfl, t3.rv r2⟩ r3)
    rw [kd_rv r1]
    exact this
theorem rk_merge {more : List (Key × V)} {mA : List (Key × AV)} (r : Rk K c more mA) : ∀ {ws : List (Key × V)} {kvs : List (Key × AV)}, Rk K c ws kvs → Rk K c (mergeK ws more) (mergeA kvs mA) := by
  unfold Rk at r
  induction r with
  | nil => exact fun q => q
  | @cons p q ps qs h t ih =>
    intro ws kvs r0
    obtain ⟨h1, h2⟩ := h
    have := ih (rk_put q.1 h2 r0)
    show Rk K c (mergeK (putK ws p.1 p.2) ps) (mergeA (putA kvs q.1 q.2) qs)
    rw [h1]
    exact this
/-- {k: v, ..} as a named dict -/
theorem wx_disp {Φ : AV → Sto → Prop} {trs : List (TE × TE)} {ps : List (Key × AV)} (h : EvP K sl (st ++ [.dk []]) trs ps) (hl : ps.length ≤ 15) (k : Φ (.o st.length) (st ++ [.dk (mergeA [] ps)])) : Wx K b (tDisp trs) sl st Φ := fun c σ e tb s S Q q p hp => by
  have t1 := tr_add (ho := .dK []) (o := .dk []) s hp
  have s1 : SR K (c.add p (.dK []) (.dk [])) := sr_add s hp ⟨[], upd_same, .nil⟩
  have i1 : (c.add p (.dK []) (.dk [])).al[st.length]? = some p := by rw [← e]; exact add_idx s
  refine evp_run h (c.add p (.dK []) (.dk [])) σ (by show c.st ++ _ = _; rw [e]) s1 (t1.ss S) _ fun ws c2 t2 s2 e2 r2 => ?_
  have i2 := t2.idx i1
  have n2 : c2.st[st.length]? = some (.dk []) := by rw [e2]; simp
  obtain ⟨ws0, h0, d0⟩ := s2.ob _ p _ i2 n2
  cases d0
  refine ⟨h0, ws, rfl, by rw [show ws.length = ps.length from r2.length]; exact hl, ?_⟩
  have t4 := tr_put (ho := .dK (mergeK [] ws)) (o := .dk (mergeA [] ps)) s2 i2 n2 (by intro z; cases z)
  have s4 : SR K (c2.put st.length p (.dK (mergeK [] ws)) (.dk (mergeA [] ps))) := sr_put s2 i2 n2 (by intro z; cases z) ⟨_, upd_same, rk_merge (paired_imp (fun _ _ r => ⟨r.1, t4.rv r.2⟩) r2) .nil⟩
  refine q (.ref p) (c2.put st.length p (.dK (mergeK [] ws)) (.dk (mergeA [] ps))) (.o st.length) ((t1.trans t2).trans t4) s4 ⟨p, t4.idx i2, rfl⟩ ?_
  show Φ _ (c2.st.set st.length _)
  rw [e2]
  have : (st ++ [AO.dk []]).set st.length (.dk (mergeA [] ps)) = st ++ [.dk (mergeA [] ps)] := by simp
  rw [this]
  exact k
end
end AL

set_option Elab.async false
set_option linter.all false
set_option maxRecDepth 100000
set_option maxHeartbeats 4000000
/-! AL16: the rules in short, for printed terms. -/
namespace AL
open PySem PySem.Spec PyProof.Rows L2
def rLE : R2 := fun x y H Q => (rI0 fun i j => .bl (decide (i ≤ j))) x y H Q ∨ ∃ i j, x = .str i ∧ y = .str j ∧ Q (.bl (!decide (j.cps.toList < i.cps.toList))) H
theorem op_LE {X : Cx} : OpR X (compareOp .LtE) rLE := op_le.or op_le_str
/-- == of scalars, of data -/
def rEQ (K : PySem.W.Frag) : R2 := fun x y H Q => rEq x y H Q ∨ rEqD K x y H Q
def rNE (K : PySem.W.Frag) : R2 := fun x y H Q => rNe x y H Q ∨ rNeD K x y H Q
theorem op_EQ {X : Cx} (hu : X.A.units + 64 < cLine) : OpR X (compareOp .Eq) (rEQ X.K) := op_eq.or (op_eqD hu)
theorem op_NE {X : Cx} (hu : X.A.units + 64 < cLine) : OpR X (compareOp .NotEq) (rNE X.K) := op_ne.or (op_neD hu)
abbrev rFDIV : R2 := rI CDiv fun i j => .int (i / j)
abbrev rMOD : R2 := rI (fun _ j => 0 < j) fun i j => .int (i % j)
abbrev rPOW : R2 := rI CPow fun i j => .int (i ^ j.toNat)
abbrev rSUB : R2 := rI0 fun i j => .int (i - j)
section
variable {X : Cx} {e e2 o : Expr} {es : List Expr} {te te2 to ty td : TE} {ta : TA} {p p2 pos apos cpos : Pos}
theorem x_eq {K : PySem.W.Frag} (hu : X.A.units + 64 < cLine) (ha : PE X e te) (hb : PE X e2 te2) (hK : X.K = K := by rfl) : PE X (.Compare e [.Eq] [e2] pos) (tOp (rEQ K) te te2) := by
  subst hK
  exact pe_cmpR (op_EQ hu) ha hb (nomark _)
theorem x_ne {K : PySem.W.Frag} (hu : X.A.units + 64 < cLine) (ha : PE X e te) (hb : PE X e2 te2) (hK : X.K = K := by rfl) : PE X (.Compare e [.NotEq] [e2] pos) (tOp (rNE K) te te2) := by
  subst hK
  exact pe_cmpR (op_NE hu) ha hb (nomark _)
theorem x_lt (ha : PE X e te) (hb : PE X e2 te2) : PE X (.Compare e [.Lt] [e2] pos) (tOp (rI0 fun i j => .bl (decide (i < j))) te te2) := pe_cmpR op_lt ha hb (nomark _)
theorem x_le (ha : PE X e te) (hb : PE X e2 te2) : PE X (.Compare e [.LtE] [e2] pos) (tOp rLE te te2) := pe_cmpR op_LE ha hb (nomark _)
theorem x_gt (ha : PE X e te) (hb : PE X e2 te2) : PE X (.Compare e [.Gt] [e2] pos) (tOp (rI0 fun i j => .bl (decide (j < i))) te te2) := pe_cmpR op_gt ha hb (nomark _)
theorem x_ge (ha : PE X e te) (hb : PE X e2 te2) : PE X (.Compare e [.GtE] [e2] pos) (tOp (rI0 fun i j => .bl (decide (j ≤ i))) te te2) := pe_cmpR op_ge ha hb (nomark _)
theorem x_inS (ha : PE X e te) (hb : PE X e2 te2) (hm : behindInMarks .In e2 = false := by with_unfolding_all rfl) : PE X (.Compare e [.In] [e2] pos) (tOp rInS te te2) := pe_cmpR op_inS ha hb hm
theorem x_niS (ha : PE X e te) (hb : PE X e2 te2) (hm : behindInMarks .NotIn e2 = false := by with_unfolding_all rfl) : PE X (.Compare e [.NotIn] [e2] pos) (tOp rNotInS te te2) := pe_cmpR op_notInS ha hb hm
theorem x_niF {K : PySem.W.Frag} {d : Addr} (D : ∃ es n, KDict X.K X.w d es n) (ha : PE X e te) (hb : PE X e2 te2) (hm : behindInMarks .NotIn e2 = false := by with_unfolding_all rfl) (hK : X.K = K := by rfl) : PE X (.Compare e [.NotIn] [e2] pos) (tOp (rNotInF K d) te te2) := by
  subst hK
  obtain ⟨es, n, D⟩ := D
  exact pe_cmpR (op_notIn_kd D) ha hb hm
theorem x_niD (hu : X.A.units + 64 < cLine) (ha : PE X e ty) (hb : PE X e2 td) (hm : behindInMarks .NotIn e2 = false := by with_unfolding_all rfl) : PE X (.Compare e [.NotIn] [e2] pos) (tDNotIn ty td) := pe_cmp (pc_dnotin (by omega) ha hb) hm
theorem x_inD (hu : X.A.units + 64 < cLine) (ha : PE X e ty) (hb : PE X e2 td) (hm : behindInMarks .In e2 = false := by with_unfolding_all rfl) : PE X (.Compare e [.In] [e2] pos) (tDIn ty td) := pe_cmp (pc_din (by omega) ha hb) hm
theorem x_isN (ha : PE X e te) (hb : PE X e2 te2) : PE X (.Compare e [.Is] [e2] pos) (tOp rIsN te te2) := pe_cmpR op_isN1 ha hb (nomark _)
theorem x_notN (ha : PE X e te) (hb : PE X e2 te2) : PE X (.Compare e [.IsNot] [e2] pos) (tOp rNotN te te2) := pe_cmpR op_notN1 ha hb (nomark _)
theorem x_add {K : PySem.W.Frag} (ha : PE X e te) (hb : PE X e2 te2) (hK : X.K = K := by rfl) : PE X (.BinOp e .Add e2 pos) (tOp (rADD K) te te2) := by
  subst hK
  exact pe_op op_ADD ha hb
theorem x_sub (ha : PE X e te) (hb : PE X e2 te2) : PE X (.BinOp e .Sub e2 pos) (tOp rSUB te te2) := pe_op op_sub ha hb
theorem x_mul (ha : PE X e te) (hb : PE X e2 te2) : PE X (.BinOp e .Mult e2 pos) (tOp rMUL te te2) := pe_op op_MUL ha hb
theorem x_fdiv (ha : PE X e te) (hb : PE X e2 te2) : PE X (.BinOp e .FloorDiv e2 pos) (tOp rFDIV te te2) := pe_op op_fdiv ha hb
theorem x_mod (ha : PE X e te) (hb : PE X e2 te2) : PE X (.BinOp e .Mod e2 pos) (tOp rMOD te te2) := pe_op op_mod ha hb
theorem x_pow (ha : PE X e te) (hb : PE X e2 te2) : PE X (.BinOp e .Pow e2 pos) (tOp rPOW te te2) := pe_op op_pow ha hb
theorem x_neg (ha : PE X e te) : PE X (.UnaryOp .USub e pos) (tUn (rU fun i => .int (-i)) te) := pe_un un_neg ha
theorem x_ix {K : PySem.W.Frag} (ha : PE X e te) (hb : PE X e2 te2) (hs : PlainIx e2 := by intro _ _; rfl) (hK : X.K = K := by rfl) : PE X (.Subscript e e2 pos) (tOp (rIx K) te te2) := by
  subst hK
  exact pe_ix ix_seq ha hb hs
theorem x_ixF {K : PySem.W.Frag} (ha : PE X e te) (hb : PE X e2 te2) (hs : PlainIx e2 := by intro _ _; rfl) (hK : X.K = K := by rfl) : PE X (.Subscript e e2 pos) (tOp (rIxD K X.w) te te2) := by
  subst hK
  exact pe_ix ix_kdict ha hb hs
theorem x_dget (hu : X.A.units + 64 < cLine) (ha : PE X e td) (hb : PE X e2 ty) (hs : NoSl e2 := by intro _ _; rfl) : PE X (.Subscript e e2 pos) (tDGet td ty) := pe_dget (by omega) ha hb hs
theorem x_sl {K : PySem.W.Frag} {lo hi : Option Expr} {tl th : TO} {p2 : Pos} (he : PE X e te) (hl : PO X lo tl) (hu : PO X hi th) (hK : X.K = K := by rfl) : PE X (.Subscript e (.Slice lo hi none p2) pos) (tSl (rSL K) te tl th) := by
  subst hK
  exact pe_slice sl_SL he hl hu
theorem x_tuple {K : PySem.W.Frag} (B : BT X.mg) (ha : PE X e te) (hg : Gl X "tuple" := by rfl) (hs : starEach [e] X.env = (false, eval e X.env) :: starEach [] X.env := by rfl) (hK : X.K = K := by rfl) : PE X (.Call (.Name "tuple" p) [e] [] pos) (tCB (rTUP K) (tCons te tNil)) := by
  subst hK
  exact pe_callTy call_tuple_of hg B.tuple PyProof.Rows.boot_tuple (pa_cons ha pa_nil hs) (by decide) (by decide) hs
def rSTRs : List V → Hp → VK → Prop := fun xs H Q => (∃ i : Int, xs = [.int i] ∧ i.natAbs.log2 < 1920 ∧ Q (.str (toString i)) H) ∨ ∃ a, xs = [.str a] ∧ Q (.str a) H
theorem call_STRs {X : Cx} : CallR X (.type "str") rSTRs := call_str_int.or SkE.call_str_str
theorem x_str (B : BT X.mg) (ha : PE X e te) (hg : Gl X "str" := by rfl) (hs : starEach [e] X.env = (false, eval e X.env) :: starEach [] X.env := by rfl) : PE X (.Call (.Name "str" p) [e] [] pos) (tCB rSTRs (tCons te tNil)) :=
  pe_callTy call_STRs hg B.str PyProof.Rows.boot_str (pa_cons ha pa_nil hs) (by decide) (by decide) hs
theorem x_int (B : BT X.mg) (ha : PE X e te) (hg : Gl X "int" := by rfl) (hs : starEach [e] X.env = (false, eval e X.env) :: starEach [] X.env := by rfl) : PE X (.Call (.Name "int" p) [e] [] pos) (tCB rINT (tCons te tNil)) :=
  pe_callTy call_INT hg B.int PyProof.Rows.boot_int (pa_cons ha pa_nil hs) (by decide) (by decide) hs
theorem x_repr {K : PySem.W.Frag} (B : BT X.mg) (hgu : X.A.guards = some []) (hu : X.A.units + 64 < cLine) (ha : PE X e te) (hg : Gl X "repr" := by rfl) (hs : starEach [e] X.env = (false, eval e X.env) :: starEach [] X.env := by rfl) (hK : X.K = K := by rfl) : PE X (.Call (.Name "repr" p) [e] [] pos) (tCB (rREPR K) (tCons te tNil)) := by
  subst hK
  exact pe_callB (call_REPR hgu hu) hg B.repr PyProof.Rows.boot_repr (pa_cons ha pa_nil hs) (by decide) (by decide) hs
theorem x_isX {K : PySem.W.Frag} (B : BT X.mg) (ha : PE X e te) (ha2 : PE X e2 te2) (hg : Gl X "isinstance" := by rfl)
    (hs1 : starEach [e, e2] X.env = (false, eval e X.env) :: starEach [e2] X.env := by rfl) (hs2 : starEach [e2] X.env = (false, eval e2 X.env) :: starEach [] X.env := by rfl) (hpl : (backTo pos (starEach [e2] X.env)).any (·.1) = false := by rfl) (hK : X.K = K := by rfl) :
    PE X (.Call (.Name "isinstance" p) [e, e2] [] pos) (tCB (rIsX K) (tCons te (tCons te2 tNil))) := by
  subst hK
  exact pe_callB call_isX hg B.isinstance PyProof.Rows.boot_isinstance (pa_cons ha (pa_cons ha2 pa_nil hs2) hs1) (by decide) (by decide) hs1 hpl
def rMAX2 : List V → Hp → VK → Prop := fun xs H Q => ∃ i j, xs = [.int i, .int j] ∧ Q (.int (if j > i then j else i)) H
def rMIN2 : List V → Hp → VK → Prop := fun xs H Q => ∃ i j, xs = [.int i, .int j] ∧ Q (.int (if j < i then j else i)) H
theorem x_max2 (B : BT X.mg) (ha : PE X e te) (ha2 : PE X e2 te2) (hc : X.calm = true := by rfl) (hg : Gl X "max" := by rfl)
    (hs1 : starEach [e, e2] X.env = (false, eval e X.env) :: starEach [e2] X.env := by rfl) (hs2 : starEach [e2] X.env = (false, eval e2 X.env) :: starEach [] X.env := by rfl) (hpl : (backTo pos (starEach [e2] X.env)).any (·.1) = false := by rfl) :
    PE X (.Call (.Name "max" p) [e, e2] [] pos) (tCB rMAX2 (tCons te (tCons te2 tNil))) :=
  pe_callB (call_max2 hc) hg B.max PyProof.Rows.boot_max (pa_cons ha (pa_cons ha2 pa_nil hs2) hs1) (by decide) (by decide) hs1 hpl
theorem x_min2 (B : BT X.mg) (ha : PE X e te) (ha2 : PE X e2 te2) (hc : X.calm = true := by rfl) (hg : Gl X "min" := by rfl)
    (hs1 : starEach [e, e2] X.env = (false, eval e X.env) :: starEach [e2] X.env := by rfl) (hs2 : starEach [e2] X.env = (false, eval e2 X.env) :: starEach [] X.env := by rfl) (hpl : (backTo pos (starEach [e2] X.env)).any (·.1) = false := by rfl) :
    PE X (.Call (.Name "min" p) [e, e2] [] pos) (tCB rMIN2 (tCons te (tCons te2 tNil))) :=
  pe_callB (call_min2 hc) hg B.min PyProof.Rows.boot_min (pa_cons ha (pa_cons ha2 pa_nil hs2) hs1) (by decide) (by decide) hs1 hpl
theorem x_split {K : PySem.W.Frag} (ho : PE X o to) (ha : PA X (e :: es) ta) (hbase : attributeBase o "split" X.env (eval o X.env) = eval o X.env := by rfl)
    (hfew : ((backTo cpos (starEach (e :: es) X.env)).all (fun x => !x.1) && (backToKw cpos (keywordEach [] X.env)).all (fun x => x.1.isSome) && decide ((e :: es).length + ([] : List Keyword).length + (if ([] : List Keyword).isEmpty then 0 else 1) < 30)) = true := by rfl)
    (hline : (apos.endLine == cpos.line) = true := by rfl) (hs : starEach (e :: es) X.env = (false, eval e X.env) :: starEach es X.env := by rfl) (hplain : (backTo cpos (starEach es X.env)).any (·.1) = false := by rfl) (hK : X.K = K := by rfl) :
    PE X (.Call (.Attribute o "split" apos) (e :: es) [] cpos) (tBM K "str" rSPLIT to ta) := by
  subst hK
  exact pe_bm PySem.F.plainAttrs_str PySem.F.slot_str_split PySem.F.type_str_split mt_split ho ha hbase hfew hline hs hplain
theorem x_starts {K : PySem.W.Frag} (ho : PE X o to) (ha : PA X (e :: es) ta) (hbase : attributeBase o "startswith" X.env (eval o X.env) = eval o X.env := by rfl)
    (hfew : ((backTo cpos (starEach (e :: es) X.env)).all (fun x => !x.1) && (backToKw cpos (keywordEach [] X.env)).all (fun x => x.1.isSome) && decide ((e :: es).length + ([] : List Keyword).length + (if ([] : List Keyword).isEmpty then 0 else 1) < 30)) = true := by rfl)
    (hline : (apos.endLine == cpos.line) = true := by rfl) (hs : starEach (e :: es) X.env = (false, eval e X.env) :: starEach es X.env := by rfl) (hplain : (backTo cpos (starEach es X.env)).any (·.1) = false := by rfl) (hK : X.K = K := by rfl) :
    PE X (.Call (.Attribute o "startswith" apos) (e :: es) [] cpos) (tBM K "str" rSTARTS to ta) := by
  subst hK
  exact pe_bm PySem.F.plainAttrs_str PySem.F.slot_str_startswith PySem.F.type_str_startswith mt_startswith ho ha hbase hfew hline hs hplain
theorem x_join {K : PySem.W.Frag} (ho : PE X o to) (ha : PA X (e :: es) ta) (hbase : attributeBase o "join" X.env (eval o X.env) = eval o X.env := by rfl)
    (hfew : ((backTo cpos (starEach (e :: es) X.env)).all (fun x => !x.1) && (backToKw cpos (keywordEach [] X.env)).all (fun x => x.1.isSome) && decide ((e :: es).length + ([] : List Keyword).length + (if ([] : List Keyword).isEmpty then 0 else 1) < 30)) = true := by rfl)
    (hline : (apos.endLine == cpos.line) = true := by rfl) (hs : starEach (e :: es) X.env = (false, eval e X.env) :: starEach es X.env := by rfl) (hplain : (backTo cpos (starEach es X.env)).any (·.1) = false := by rfl) (hK : X.K = K := by rfl) :
    PE X (.Call (.Attribute o "join" apos) (e :: es) [] cpos) (tBM K "str" (rJOIN K) to ta) := by
  subst hK
  exact pe_bm PySem.F.plainAttrs_str PySem.F.slot_str_join PySem.F.type_str_join mt_join ho ha hbase hfew hline hs hplain
theorem x_app {K : PySem.W.Frag} (ho : PE X o to) (ha : PA X (e :: es) ta) (hbase : attributeBase o "append" X.env (eval o X.env) = eval o X.env := by rfl)
    (hfew : ((backTo cpos (starEach (e :: es) X.env)).all (fun x => !x.1) && (backToKw cpos (keywordEach [] X.env)).all (fun x => x.1.isSome) && decide ((e :: es).length + ([] : List Keyword).length + (if ([] : List Keyword).isEmpty then 0 else 1) < 30)) = true := by rfl)
    (hline : (apos.endLine == cpos.line) = true := by rfl) (hs : starEach (e :: es) X.env = (false, eval e X.env) :: starEach es X.env := by rfl) (hplain : (backTo cpos (starEach es X.env)).any (·.1) = false := by rfl) (hK : X.K = K := by rfl) :
    PE X (.Call (.Attribute o "append" apos) (e :: es) [] cpos) (tBM K "list" rAppend to ta) := by
  subst hK
  exact pe_bm PySem.F.plainAttrs_list PySem.F.slot_list_append PySem.F.type_list_append mt_append ho ha hbase hfew hline hs hplain
theorem x_rng1 {tg : Expr} (B : BT X.mg) (ha : PE X e te) (hg : Gl X "range" := by rfl) (hs : starEach [e] X.env = [(false, eval e X.env)] := by rfl) : PI X tg (.Call (.Name "range" p) [e] [] pos) (iRng1 (tCons te tNil)) :=
  pi_range1 hg B.range (pa_cons ha pa_nil hs) hs
theorem x_enum {K : PySem.W.Frag} {elts : List Expr} {kk : Nat} {tpos : Pos} (B : BT X.mg) (ha : PE X e te) (hg : Gl X "enumerate" := by rfl) (hs : starEach [e] X.env = [(false, eval e X.env)] := by rfl) (hK : X.K = K := by rfl) : PI X (.Tuple elts kk tpos) (.Call (.Name "enumerate" p) [e] [] pos) (iEnum K (tCons te tNil)) := by
  subst hK
  exact pi_enum hg B.enumerate (pa_cons ha pa_nil hs) hs
theorem x_zip {K : PySem.W.Frag} {elts : List Expr} {kk : Nat} {tpos : Pos} (B : BT X.mg) (ha : PE X e te) (hb : PE X e2 te2) (hg : Gl X "zip" := by rfl)
    (hs : starEach [e, e2] X.env = (false, eval e X.env) :: starEach [e2] X.env := by rfl) (hs2 : starEach [e2] X.env = (false, eval e2 X.env) :: starEach [] X.env := by rfl) (hpl : (backTo pos (starEach [e2] X.env)).any (·.1) = false := by rfl) (hK : X.K = K := by rfl) :
    PI X (.Tuple elts kk tpos) (.Call (.Name "zip" p) [e, e2] [] pos) (iZipS X.prog X.w K (tCons te (tCons te2 tNil))) := by
  subst hK
  exact pi_zipS (pa_cons ha (pa_cons hb pa_nil hs2) hs) B.zip hg hs hpl
theorem t_eq {K : PySem.W.Frag} (hu : X.A.units + 64 < cLine) (ha : PE X e te) (hb : PE X e2 te2) (hK : X.K = K := by rfl) : PT X (.Compare e [.Eq] [e2] pos) (tTest (tOp (rEQ K) te te2)) := by
  subst hK
  exact pt_cmpR (op_EQ hu) ha hb (nomark _)
theorem t_ne {K : PySem.W.Frag} (hu : X.A.units + 64 < cLine) (ha : PE X e te) (hb : PE X e2 te2) (hK : X.K = K := by rfl) : PT X (.Compare e [.NotEq] [e2] pos) (tTest (tOp (rNE K) te te2)) := by
  subst hK
  exact pt_cmpR (op_NE hu) ha hb (nomark _)
theorem t_lt (ha : PE X e te) (hb : PE X e2 te2) : PT X (.Compare e [.Lt] [e2] pos) (tTest (tOp (rI0 fun i j => .bl (decide (i < j))) te te2)) := pt_cmpR op_lt ha hb (nomark _)
theorem t_le (ha : PE X e te) (hb : PE X e2 te2) : PT X (.Compare e [.LtE] [e2] pos) (tTest (tOp rLE te te2)) := pt_cmpR op_LE ha hb (nomark _)
theorem t_gt (ha : PE X e te) (hb : PE X e2 te2) : PT X (.Compare e [.Gt] [e2] pos) (tTest (tOp (rI0 fun i j => .bl (decide (j < i))) te te2)) := pt_cmpR op_gt ha hb (nomark _)
theorem t_ge (ha : PE X e te) (hb : PE X e2 te2) : PT X (.Compare e [.GtE] [e2] pos) (tTest (tOp (rI0 fun i j => .bl (decide (j ≤ i))) te te2)) := pt_cmpR op_ge ha hb (nomark _)
theorem t_isN (ha : PE X e te) (hb : PE X e2 te2) : PT X (.Compare e [.Is] [e2] pos) (tTest (tOp rIsN te te2)) := pt_cmpR op_isN1 ha hb (nomark _)
theorem t_notN (ha : PE X e te) (hb : PE X e2 te2) : PT X (.Compare e [.IsNot] [e2] pos) (tTest (tOp rNotN te te2)) := pt_cmpR op_notN1 ha hb (nomark _)
theorem t_inS (ha : PE X e te) (hb : PE X e2 te2) (hm : behindInMarks .In e2 = false := by with_unfolding_all rfl) : PT X (.Compare e [.In] [e2] pos) (tTest (tOp rInS te te2)) := pt_cmpR op_inS ha hb hm
theorem t_niS (ha : PE X e te) (hb : PE X e2 te2) (hm : behindInMarks .NotIn e2 = false := by with_unfolding_all rfl) : PT X (.Compare e [.NotIn] [e2] pos) (tTest (tOp rNotInS te te2)) := pt_cmpR op_notInS ha hb hm
theorem t_niF {K : PySem.W.Frag} {d : Addr} (D : ∃ es n, KDict X.K X.w d es n) (ha : PE X e te) (hb : PE X e2 te2) (hm : behindInMarks .NotIn e2 = false := by with_unfolding_all rfl) (hK : X.K = K := by rfl) : PT X (.Compare e [.NotIn] [e2] pos) (tTest (tOp (rNotInF K d) te te2)) := by
  subst hK
  obtain ⟨es, n, D⟩ := D
  exact pt_cmpR (op_notIn_kd D) ha hb hm
theorem t_niD (hu : X.A.units + 64 < cLine) (ha : PE X e ty) (hb : PE X e2 td) (hm : behindInMarks .NotIn e2 = false := by with_unfolding_all rfl) : PT X (.Compare e [.NotIn] [e2] pos) (tB (tDNotIn ty td)) := pt_cmp (pc_dnotin (by omega) ha hb) hm
theorem t_inD (hu : X.A.units + 64 < cLine) (ha : PE X e ty) (hb : PE X e2 td) (hm : behindInMarks .In e2 = false := by with_unfolding_all rfl) : PT X (.Compare e [.In] [e2] pos) (tB (tDIn ty td)) := pt_cmp (pc_din (by omega) ha hb) hm
theorem x_len {K : PySem.W.Frag} (B : BT X.mg) (ha : PE X e te) (hg : Gl X "len" := by rfl) (hs : starEach [e] X.env = (false, eval e X.env) :: starEach [] X.env := by rfl) (hK : X.K = K := by rfl) : PE X (.Call (.Name "len" p) [e] [] pos) (tCB (rLEN K) (tCons te tNil)) := by
  subst hK
  exact pe_len B ha hg hs
theorem x_is {K : PySem.W.Frag} (B : BT X.mg) (ha : PE X e te) (ha2 : PE X e2 te2) (hg : Gl X "isinstance" := by rfl)
    (hs1 : starEach [e, e2] X.env = (false, eval e X.env) :: starEach [e2] X.env := by rfl) (hs2 : starEach [e2] X.env = (false, eval e2 X.env) :: starEach [] X.env := by rfl) (hpl : (backTo pos (starEach [e2] X.env)).any (·.1) = false := by rfl) (hK : X.K = K := by rfl) :
    PE X (.Call (.Name "isinstance" p) [e, e2] [] pos) (tCB (rIs K) (tCons te (tCons te2 tNil))) := by
  subst hK
  exact pe_is B ha ha2 hg hs1 hs2 hpl
theorem x_all {K : PySem.W.Frag} (B : BT X.mg) (ha : PE X e te) (hc : X.calm = true := by rfl) (hg : Gl X "all" := by rfl) (hs : starEach [e] X.env = (false, eval e X.env) :: starEach [] X.env := by rfl) (hK : X.K = K := by rfl) : PE X (.Call (.Name "all" p) [e] [] pos) (tCB (rAll K) (tCons te tNil)) := by
  subst hK
  exact pe_all B ha hc hg hs
theorem x_any {K : PySem.W.Frag} (B : BT X.mg) (ha : PE X e te) (hc : X.calm = true := by rfl) (hg : Gl X "any" := by rfl) (hs : starEach [e] X.env = (false, eval e X.env) :: starEach [] X.env := by rfl) (hK : X.K = K := by rfl) : PE X (.Call (.Name "any" p) [e] [] pos) (tCB (rAny K) (tCons te tNil)) := by
  subst hK
  exact pe_any B ha hc hg hs
theorem x_callH {K : PySem.W.Frag} {k j i : Nat} {S : Addr → Option DS} {W : WX} {x : Str} {t : TA} (A : ∀ f F, S f = some F → HeldD X.prog X.w X.K X.mg X.base k f (spD K F)) (hr : Room j X.A) (tk : Takes X W) (ha : PA X (e :: es) t) (hk : k ≤ j := by decide)
    (hN : X.N[i]? = some x := by rfl) (hv : Vis X.env.scope x := by first | exact Or.inl rfl | exact Or.inr (Or.inl rfl) | exact Or.inr (Or.inr rfl))
    (hdb : (x == ("__debug__" : Str)) = false := by decide) (hcd : (x == ("__classdict__" : Str)) = false := by decide)
    (he : starEach (e :: es) X.env = (false, eval e X.env) :: starEach es X.env := by rfl) (hpl : (backTo pos (starEach es X.env)).any (·.1) = false := by rfl) (hK : X.K = K := by rfl) : PE X (.Call (.Name x p) (e :: es) [] pos) (tCallH i S K W t) := by
  subst hK
  exact pe_callH A hr tk ha hk hN hv hdb hcd he hpl
theorem x_xk {K : PySem.W.Frag} {f : Str} (he : PE X e te) (hb : attributeBase e f X.env (eval e X.env) = eval e X.env := by rfl) (hK : X.K = K := by rfl) : PE X (.Attribute e f pos) (tXk K f te) := by
  subst hK
  exact pe_xk he hb
theorem x_orT {K : PySem.W.Frag} {rest : List Expr} (ha : PE X e te) (hb : PE X (.BoolOp .Or (e2 :: rest) pos) te2) (hK : X.K = K := by rfl) : PE X (.BoolOp .Or (e :: e2 :: rest) pos) (tOrT K te te2) := by
  subst hK
  exact pe_orT ha hb
theorem t_tru {K : PySem.W.Frag} (ha : PE X e te) (he : ∀ whole, isTrue e X.env whole = (do let v ← whole; standAt e.pos; holding [v] (truthy v)) := by intro _; rfl) (hK : X.K = K := by rfl) : PT X e (fun σ H Q => te σ H fun x H' => ∃ k, TruV K x H' k ∧ Q k H') := by
  subst hK
  exact pt_truth ha he
/-- a test that is a value's truth -/
theorem pt_tru (ha : PE X e te) (he : ∀ whole, isTrue e X.env whole = (do let v ← whole; standAt e.pos; holding [v] (truthy v)) := by intro _; rfl) : PT X e (fun σ H Q => te σ H fun x H' => ∃ k, TruV X.K x H' k ∧ Q k H') := pt_truth ha he
end
section
variable {K : PySem.W.Frag} {st : Sto}
theorem o_max2 {i j : Int} : Oc K rMAX2 [dI i, dI j] st (dI (if j > i then j else i)) := fun c vs e s r Q q => by
  obtain ⟨v, w, rfl, r1, r2⟩ := rvs2 r
  cases rv_i r1
  cases rv_i r2
  exact ⟨i, j, rfl, q _ c (Tr.refl c) s e (.int _)⟩
theorem o_min2 {i j : Int} : Oc K rMIN2 [dI i, dI j] st (dI (if j < i then j else i)) := fun c vs e s r Q q => by
  obtain ⟨v, w, rfl, r1, r2⟩ := rvs2 r
  cases rv_i r1
  cases rv_i r2
  exact ⟨i, j, rfl, q _ c (Tr.refl c) s e (.int _)⟩
theorem o_leI {i j : Int} : Op K rLE (dI i) (dI j) st (dB (decide (i ≤ j))) := fun c v w e s r1 r2 Q q => Or.inl (o_Ib (f := fun i j => decide (i ≤ j)) c v w e s r1 r2 Q q)
theorem o_leS {i j : Str} : Op K rLE (dS i) (dS j) st (dB (!decide (j.cps.toList < i.cps.toList))) := fun c v w e s r1 r2 Q q => Or.inr ⟨i, j, rv_s r1, rv_s r2, q _ c (Tr.refl c) s e (.bl _)⟩
theorem o_eqS {x y : Str} : Op K (rEQ K) (dS x) (dS y) st (dB (decide (x = y))) := fun c v w e s r1 r2 Q q => by
  cases rv_s r1
  cases rv_s r2
  have h : decide (V.str x = V.str y) = decide (x = y) := by simp
  refine Or.inl ⟨rfl, ?_⟩
  rw [h]
  exact q _ c (Tr.refl c) s e (.bl _)
theorem o_neS {x y : Str} : Op K (rNE K) (dS x) (dS y) st (dB (!decide (x = y))) := fun c v w e s r1 r2 Q q => by
  cases rv_s r1
  cases rv_s r2
  have h : decide (V.str x = V.str y) = decide (x = y) := by simp
  refine Or.inl ⟨rfl, ?_⟩
  rw [h]
  exact q _ c (Tr.refl c) s e (.bl _)
theorem o_eqI {x y : Int} : Op K (rEQ K) (dI x) (dI y) st (dB (decide (x = y))) := fun c v w e s r1 r2 Q q => by
  cases rv_i r1
  cases rv_i r2
  have h : decide (V.int x = V.int y) = decide (x = y) := by simp
  refine Or.inl ⟨rfl, ?_⟩
  rw [h]
  exact q _ c (Tr.refl c) s e (.bl _)
theorem o_neI {x y : Int} : Op K (rNE K) (dI x) (dI y) st (dB (!decide (x = y))) := fun c v w e s r1 r2 Q q => by
  cases rv_i r1
  cases rv_i r2
  have h : decide (V.int x = V.int y) = decide (x = y) := by simp
  refine Or.inl ⟨rfl, ?_⟩
  rw [h]
  exact q _ c (Tr.refl c) s e (.bl _)
theorem o_eqD {x y : PyData} (hx : SeqAt.shaped x = true) (hy : SeqAt.shaped y = true) : Op K (rEQ K) (.d x) (.d y) st (dB (PyData.eqv x y)) := fun c v w e s r1 r2 Q q => Or.inr (o_eq hx hy c v w e s r1 r2 Q q)
theorem o_neD {x y : PyData} (hx : SeqAt.shaped x = true) (hy : SeqAt.shaped y = true) : Op K (rNE K) (.d x) (.d y) st (dB (!PyData.eqv x y)) := fun c v w e s r1 r2 Q q => Or.inr (o_ne hx hy c v w e s r1 r2 Q q)
theorem o_strsI {i : Int} (h : i.natAbs.log2 < 1920) : Oc K rSTRs [dI i] st (dS (toString i)) := fun c vs e s r Q q => by
  obtain ⟨v, rfl, r0⟩ := rvs1 r
  cases rv_i r0
  exact Or.inl ⟨i, rfl, h, q _ c (Tr.refl c) s e (.str _)⟩
theorem o_strsS {z : Str} : Oc K rSTRs [dS z] st (dS z) := fun c vs e s r Q q => by
  obtain ⟨v, rfl, r0⟩ := rvs1 r
  cases rv_s r0
  exact Or.inr ⟨z, rfl, q _ c (Tr.refl c) s e (.str _)⟩
end
end AL

set_option Elab.async false
set_option linter.all false
set_option maxRecDepth 100000
set_option maxHeartbeats 4000000
/-! AL17: statements with what they always do; kinds of data. -/
namespace AL
open PySem PySem.Spec PyProof.Rows L2
section
variable {K : PySem.W.Frag} {b : Cf} {sl : Sl} {st : Sto} {te : TE} {tt : TT} {t1 t2 ts tu : TS} {x : AV} {p : Bool} {e : DE}
theorem ws_ifE (h : Et K tt sl st p) (h1 : p = true → Ws K b t1 sl st e) (h2 : p = false → Ws K b t2 sl st e) : Ws K b (tIfS tt t1 t2) sl st e := ws_if (wt_of h (by
  cases p with
  | true => rw [if_pos rfl]; exact h1 rfl
  | false => rw [if_neg (by decide)]; exact h2 rfl))
theorem ws_asgE {i : Nat} (h : Ev K te sl st x) (k : e.nx (sl.set i (some x)) st) : Ws K b (tAsg te (gName i)) sl st e := ws_asg (wx_of h k)
theorem ws_retE (h : Ev K te sl st x) (k : e.rt x st) : Ws K b (tRet te) sl st e := ws_ret (wx_of h k)
theorem ws_sq (h : Ws K b ts sl st { nx := fun sl' st' => Ws K b tu sl' st' e, rt := e.rt, bk := e.bk, ct := e.ct }) : Ws K b (tSeq ts tu) sl st e := ws_seq h
/-- if c: return .. / the rest -/
theorem ws_guard (h : Et K tt sl st p) (h1 : p = true → Ws K b t1 sl st { nx := fun sl' st' => Ws K b tu sl' st' e, rt := e.rt, bk := e.bk, ct := e.ct }) (h2 : p = false → Ws K b tu sl st e) : Ws K b (tSeq (tIfS tt t1 tNext) tu) sl st e :=
  ws_sq (ws_ifE h h1 fun hp => ws_next (h2 hp))
theorem ws_asgS {i : Nat} (h : Ev K te sl st x) (k : Ws K b tu (sl.set i (some x)) st e) : Ws K b (tSeq (tAsg te (gName i)) tu) sl st e := ws_sq (ws_asgE h k)
/-- a test of pure data that may be or not -/
theorem et_chain {r r' : R2} {ta tb tc : TE} {x y z : AV} {p q : Bool} (ha : Ev K ta sl st x) (hb : Ev K tb sl st y) (hr : Op K r x y st (dB p)) (hc : p = true → Ev K tc sl st z) (hr' : p = true → Op K r' y z st (dB q)) : Et K (tTest (tChain r r' ta tb tc)) sl st (p && q) := et_test (ev_chain ha hb hr hc hr')
end
def isIntD : PyData → Bool
  | .int _ => true
  | .bool _ => true
  | _ => false
def isBoolD : PyData → Bool
  | .bool _ => true
  | _ => false
def isStrD : PyData → Bool
  | .str _ => true
  | _ => false
def isTupD : PyData → Bool
  | .tuple _ => true
  | _ => false
def isLstD : PyData → Bool
  | .list _ => true
  | _ => false
theorem kit_int (x : PyData) : kitB (tyD x) "int" = some (isIntD x) := by
  have h0 : kitB "NoneType" "int" = some false := by decide +kernel
  have h1 : kitB "bool" "int" = some true := by decide +kernel
  have h2 : kitB "int" "int" = some true := by decide +kernel
  have h3 : kitB "str" "int" = some false := by decide +kernel
  have h4 : kitB "list" "int" = some false := by decide +kernel
  have h5 : kitB "tuple" "int" = some false := by decide +kernel
  have h6 : kitB "dict" "int" = some false := by decide +kernel
  cases x <;> assumption
theorem kit_bool (x : PyData) : kitB (tyD x) "bool" = some (isBoolD x) := by
  have h0 : kitB "NoneType" "bool" = some false := by decide +kernel
  have h1 : kitB "bool" "bool" = some true := by decide +kernel
  have h2 : kitB "int" "bool" = some false := by decide +kernel
  have h3 : kitB "str" "bool" = some false := by decide +kernel
  have h4 : kitB "list" "bool" = some false := by decide +kernel
  have h5 : kitB "tuple" "bool" = some false := by decide +kernel
  have h6 : kitB "dict" "bool" = some false := by decide +kernel
  cases x <;> assumption
theorem kit_str (x : PyData) : kitB (tyD x) "str" = some (isStrD x) := by
  have h0 : kitB "NoneType" "str" = some false := by decide +kernel
  have h1 : kitB "bool" "str" = some false := by decide +kernel
  have h2 : kitB "int" "str" = some false := by decide +kernel
  have h3 : kitB "str" "str" = some true := by decide +kernel
  have h4 : kitB "list" "str" = some false := by decide +kernel
  have h5 : kitB "tuple" "str" = some false := by decide +kernel
  have h6 : kitB "dict" "str" = some false := by decide +kernel
  cases x <;> assumption
theorem kit_tup (x : PyData) : kitB (tyD x) "tuple" = some (isTupD x) := by
  have h0 : kitB "NoneType" "tuple" = some false := by decide +kernel
  have h1 : kitB "bool" "tuple" = some false := by decide +kernel
  have h2 : kitB "int" "tuple" = some false := by decide +kernel
  have h3 : kitB "str" "tuple" = some false := by decide +kernel
  have h4 : kitB "list" "tuple" = some false := by decide +kernel
  have h5 : kitB "tuple" "tuple" = some true := by decide +kernel
  have h6 : kitB "dict" "tuple" = some false := by decide +kernel
  cases x <;> assumption
section
variable {K : PySem.W.Frag} {sl : Sl} {st : Sto} {te : TE} {x : PyData}
/-- isinstance(x, T) as an expression -/
theorem ev_isI (h : Ev K te sl st (.d x)) : Ev K (tCB (rIs K) (tCons te (tCons (tC (.ty "int")) tNil))) sl st (dB (isIntD x)) := ev_cb (ea_cons h (ea_cons ev_raw ea_nil)) (o_is (kit_int x))
theorem ev_isB (h : Ev K te sl st (.d x)) : Ev K (tCB (rIs K) (tCons te (tCons (tC (.ty "bool")) tNil))) sl st (dB (isBoolD x)) := ev_cb (ea_cons h (ea_cons ev_raw ea_nil)) (o_is (kit_bool x))
theorem ev_isS (h : Ev K te sl st (.d x)) : Ev K (tCB (rIs K) (tCons te (tCons (tC (.ty "str")) tNil))) sl st (dB (isStrD x)) := ev_cb (ea_cons h (ea_cons ev_raw ea_nil)) (o_is (kit_str x))
theorem ev_isT (h : Ev K te sl st (.d x)) : Ev K (tCB (rIs K) (tCons te (tCons (tC (.ty "tuple")) tNil))) sl st (dB (isTupD x)) := ev_cb (ea_cons h (ea_cons ev_raw ea_nil)) (o_is (kit_tup x))
theorem ev_lenS {z : Str} (h : Ev K te sl st (dS z)) (hz : z.length ≤ 10000000) : Ev K (tCB (rLEN K) (tCons te tNil)) sl st (dI z.length) := ev_cb (ea_cons h ea_nil) (o_lenS hz)
theorem ev_lenL {xs : List PyData} (h : Ev K te sl st (dL xs)) : Ev K (tCB (rLEN K) (tCons te tNil)) sl st (dI xs.length) := ev_cb (ea_cons h ea_nil) o_lenL
theorem ev_lenT {xs : List PyData} (h : Ev K te sl st (dT xs)) : Ev K (tCB (rLEN K) (tCons te tNil)) sl st (dI xs.length) := ev_cb (ea_cons h ea_nil) o_lenT
theorem ev_all {bs : List Bool} (h : Ev K te sl st (dL (bs.map PyData.bool))) : Ev K (tCB (rAll K) (tCons te tNil)) sl st (dB (bs.all id)) := ev_cb (ea_cons h ea_nil) o_all
/-- all([..]) over a list of items -/
theorem ev_allM {α : Type} {xs : List α} {g : α → Bool} (h : Ev K te sl st (dL (xs.map fun x => .bool (g x)))) : Ev K (tCB (rAll K) (tCons te tNil)) sl st (dB (xs.all g)) := by
  have e : (xs.map fun x => PyData.bool (g x)) = (xs.map g).map PyData.bool := by rw [List.map_map]; rfl
  rw [e] at h
  have := ev_all h
  have e2 : (xs.map g).all id = xs.all g := by rw [List.all_map]; rfl
  rwa [e2] at this
/-- over items of any kind -/
theorem ev_lcG {wi : TI} {g : TG} {vs : List Nat} {α : Type} {xs : List α} {mk : α → AV} {f : α → PyData} (hi : Ei K wi sl st (xs.map mk)) (hn : xs.length ≤ 1000000) (hx : ∀ x ∈ xs, ∃ sl' js, (∀ j ∈ js, j ∈ vs) ∧ Eg K g (wipeS sl vs) (mk x) sl' js ∧ Ev K te sl' st (.d (f x))) :
    Ev K (tLc wi g tYes te vs) sl st (dL (xs.map f)) := fun c σ e s S Q q => by
  refine hi c σ e s S _ fun J c1 t1 s1 e1 w => fun D hD => ?_
  refine ⟨fun i m H => m = xs.length - i ∧ i ≤ xs.length ∧ ∃ c2, c2.hp = H ∧ c2.st = st ∧ Hid K c1 D c2 ((xs.take i).map f), ⟨_, rfl, Nat.zero_le _, _, rfl, e1, hid_start s1 hD⟩, ?_⟩
  have hl : (xs.map mk).length = xs.length := List.length_map ..
  rintro i m H ⟨rfl, hle, c2, rfl, e2, hd⟩
  by_cases hlt : i < xs.length
  · refine Or.inr ⟨w.go c2 i hd.up hd.s (by rw [hl]; exact hlt), fun H' => (i + 1) ≤ xs.length ∧ ∃ c3, c3.hp = H' ∧ c3.st = st ∧ Hid K c1 D c3 ((xs.take (i + 1)).map f), fun H' ⟨h1, h2⟩ => ⟨_, by omega, rfl, h1, h2⟩, fun v H' hy => ?_⟩
    have hx0 : xs[i]? = some xs[i] := List.getElem?_eq_getElem hlt
    have hx1 : (xs.map mk)[i]? = some (mk xs[i]) := by rw [List.getElem?_map, hx0]; rfl
    obtain ⟨c3, rfl, e3, t3, s3, r3⟩ := w.yld c2 i _ v H' hd.up hd.s hx1 hy
    have hd3 := hid_tr hd t3 s3
    obtain ⟨sl', js, hjs, hg, hr⟩ := hx _ (List.getElem_mem hlt)
    have S3 : SS K c3 (wipe σ vs) (wipeS sl vs) := ss_wipe (hd3.up.ss (t1.ss S)) vs
    refine hg c3 _ v s3 S3 r3 _ fun σ' S' hw => ⟨(hw vs hjs).trans wipe_wipe, ?_⟩
    show te σ' c3.hp _
    refine hr c3 σ' (e3.trans e2) s3 S' _ fun u c5 t5 s5 e5 r5 => ?_
    have hd5 := hid_tr hd3 t5 s5
    obtain ⟨us, h1, h2, h3⟩ := hid_push hd5 hD r5
    refine ⟨us, h1, ?_, hlt, { c5 with hp := upd c5.hp D (.lst (us ++ [u])) }, rfl, e5, ?_⟩
    · rw [h2, List.length_map, List.length_take]
      have : sizeLine = 16777216 := sizeLine_eq
      omega
    · rw [take_get hx0, List.map_append]
      exact h3
  · have : i = xs.length := by omega
    subst this
    rw [List.take_length] at hd
    obtain ⟨t, s', r⟩ := hid_end hd hD
    have ws := w.stop c2 hd.up hd.s
    rw [hl] at ws
    exact Or.inl ⟨ws, q _ { c2 with hid := c1.hid } (t1.trans t) s' e2 r⟩
/-- one name, over data -/
theorem ev_lcN {wi : TI} {j : Nat} {vs : List Nat} {α : Type} {xs : List α} {mk : α → AV} {f : α → PyData} (hi : Ei K wi sl st (xs.map mk)) (hn : xs.length ≤ 1000000) (hj : j ∈ vs) (hx : ∀ x ∈ xs, Ev K te ((wipeS sl vs).set j (some (mk x))) st (.d (f x))) :
    Ev K (tLc wi (gName j) tYes te vs) sl st (dL (xs.map f)) := ev_lcG hi hn fun x hm => ⟨_, [j], (fun i hi => by rw [List.mem_singleton.mp hi]; exact hj), eg_name, hx x hm⟩
end
end AL

set_option Elab.async false
set_option linter.all false
set_option maxRecDepth 100000
set_option maxHeartbeats 4000000
/-! AL18: what a call leaves behind that nobody names is forgotten. -/
namespace AL
open PySem PySem.Spec PyProof.Rows L2
def DataE (e : AE) : Prop := match e.fs with
  | none => True
  | some fs => ∀ p ∈ fs, ∃ d, p.2 = .d d
section
variable {K : PySem.W.Frag} {c c' : Cf} {ex : Sto}
def Cf.cutTo (c' c : Cf) : Cf := { c' with al := c.al, st := c.st }
theorem cut_alive (t : Tr c c') (s : SR K c) (e : c'.st = c.st ++ ex) {a : Addr} (h : (c'.cutTo c).Alive a) : c'.Alive a := by
  rcases h with h | ⟨i, o, h1, h2, h3⟩
  · exact Or.inl h
  · have h1 : c.al[i]? = some a := h1
    have h2 : c.st[i]? = some o := h2
    exact Or.inr ⟨i, o, t.idx h1, by rw [e, List.getElem?_append_left (List.getElem?_eq_some_iff.mp h2).1]; exact h2, h3⟩
theorem cut_tr (t : Tr c c') (s : SR K c) (e : c'.st = c.st ++ ex) : Tr c (c'.cutTo c) :=
  ⟨⟨[], by simp [Cf.cutTo]⟩, fun a o n q => ⟨fun h => (t.keep a o n q).1 (cut_alive t s e h), (t.keep a o n q).2⟩, t.dom, t.hid, t.keepH⟩
theorem cut_rvd (t : Tr c c') (s : SR K c) (e : c'.st = c.st ++ ex) {v : V} {d : PyData} (r : Rv K c' v (.d d)) : Rv K (c'.cutTo c) v (.d d) :=
  Dt.mono (fun a o n q => ⟨fun h => n (cut_alive t s e h), q⟩) d v r
theorem cut_rvL (t : Tr c c') (s : SR K c) (e : c'.st = c.st ++ ex) {v v0 : V} {l : Lf} (r : RvL K c' v l) (r0 : RvL K c v0 l) : RvL K (c'.cutTo c) v l := by
  cases l with
  | d x => exact Dt.mono (fun a o n q => ⟨fun h => n (cut_alive t s e h), q⟩) x v r
  | o i =>
    obtain ⟨a, h1, rfl⟩ := r
    obtain ⟨a0, h2, _⟩ := r0
    have := t.idx h2
    rw [h1] at this
    cases this
    exact ⟨a, h2, rfl⟩
  | raw u => exact r
theorem cut_rv (t : Tr c c') (s : SR K c) (e : c'.st = c.st ++ ex) {v v0 : V} {x : AV} (r : Rv K c' v x) (r0 : Rv K c v0 x) : Rv K (c'.cutTo c) v x := by
  cases x with
  | d x => exact cut_rvd t s e r
  | o i =>
    obtain ⟨a, h1, rfl⟩ := r
    obtain ⟨a0, h2, _⟩ := r0
    have := t.idx h2
    rw [h1] at this
    cases this
    exact ⟨a, h2, rfl⟩
  | raw u => exact r
  | p xs =>
    obtain ⟨a, us, rfl, n, q, p⟩ := r
    obtain ⟨a0, us0, _, _, _, p0⟩ := r0
    refine ⟨a, us, rfl, fun h => n (cut_alive t s e h), q, ?_⟩
    have g : ∀ {us us0 : List V} {xs : List Lf}, Paired (RvL K c') us xs → Paired (RvL K c) us0 xs → Paired (RvL K (c'.cutTo c)) us xs := by
      intro us us0 xs p
      induction p generalizing us0 with
      | nil => intro _; exact .nil
      | cons r _ ih =>
        intro p0
        cases p0 with
        | cons r0 t0 => exact .cons (cut_rvL t s e r r0) (ih t0)
    exact g p p0
theorem cut_rvs (t : Tr c c') (s : SR K c) (e : c'.st = c.st ++ ex) : ∀ {us us0 : List V} {xs : List AV}, Rvs K c' us xs → Rvs K c us0 xs → Rvs K (c'.cutTo c) us xs
  | _, _, _, .nil, _ => .nil
  | _, _, _, .cons r p, .cons r0 p0 => .cons (cut_rv t s e r r0) (cut_rvs t s e p p0)
theorem cut_kv {κ : Type} (t : Tr c c') (s : SR K c) (e : c'.st = c.st ++ ex) : ∀ {us us0 : List (κ × V)} {xs : List (κ × AV)}, Paired (fun p q => p.1 = q.1 ∧ Rv K c' p.2 q.2) us xs → Paired (fun p q => p.1 = q.1 ∧ Rv K c p.2 q.2) us0 xs → Paired (fun p q => p.1 = q.1 ∧ Rv K (c'.cutTo c) p.2 q.2) us xs
  | _, _, _, .nil, _ => .nil
  | _, _, _, .cons r p, .cons r0 p0 => .cons ⟨r.1, cut_rv t s e r.2 r0.2⟩ (cut_kv t s e p p0)
theorem cut_sr (t : Tr c c') (s : SR K c) (s' : SR K c') (e : c'.st = c.st ++ ex) : SR K (c'.cutTo c) := by
  obtain ⟨l, hl⟩ := t.pre
  refine ⟨fun a m => ?_, s'.hd, s.len, s.nd, fun a m q => ?_, fun i a o h1 h2 => ?_⟩
  · exact s'.dj a (by rw [hl]; exact List.mem_append_left _ m)
  · exact s.al a m (t.dom a q)
  · have h1 : c.al[i]? = some a := h1
    have h2 : c.st[i]? = some o := h2
    have r0 := s.ob i a o h1 h2
    have r := s'.ob i a o (t.idx h1) (by rw [e, List.getElem?_append_left (List.getElem?_eq_some_iff.mp h2).1]; exact h2)
    cases o with
    | dead => trivial
    | lst xs =>
      obtain ⟨vs, p, q⟩ := r
      obtain ⟨vs0, p0, q0⟩ := r0
      exact ⟨vs, p, cut_rvs t s e q q0⟩
    | dk kvs =>
      obtain ⟨vs, p, q⟩ := r
      obtain ⟨vs0, p0, q0⟩ := r0
      exact ⟨vs, p, cut_kv t s e q q0⟩
    | ins C fs =>
      obtain ⟨dx, vs, p, q⟩ := r
      obtain ⟨dx0, vs0, p0, q0⟩ := r0
      exact ⟨dx, vs, p, cut_kv t s e q q0⟩
    | exc cls fs =>
      obtain ⟨d, vs, p, n, x, q⟩ := r
      obtain ⟨d0, vs0, p0, n0, x0, q0⟩ := r0
      exact ⟨d, vs, p, fun dd z h => n dd z (cut_alive t s e h), x, cut_kv t s e q q0⟩
theorem cut_er (t : Tr c c') (s : SR K c) (e : c'.st = c.st ++ ex) {cls : Value} {d : Option Addr} {er : AE} (r : Er K c' cls d er) (hd : DataE er) : Er K (c'.cutTo c) cls d er := by
  obtain ⟨h1, h2⟩ := r
  refine ⟨h1, ?_⟩
  unfold DataE at hd
  cases hf : er.fs with
  | none => rw [hf] at h2; exact h2
  | some fs =>
    rw [hf] at h2 hd
    obtain ⟨dx, ws, p1, p2, p3, p4⟩ := h2
    refine ⟨dx, ws, p1, p2, fun h => p3 (cut_alive t s e h), ?_⟩
    have g : ∀ {ws : List (Str × V)} {fs : List (Str × AV)}, (∀ p ∈ fs, ∃ d, p.2 = .d d) → Rf K c' ws fs → Rf K (c'.cutTo c) ws fs := by
      intro ws fs hh p
      induction p with
      | nil => exact .nil
      | @cons a b _ _ r _ ih =>
        refine .cons ⟨r.1, ?_⟩ (ih fun p hp => hh p (List.mem_cons_of_mem _ hp))
        obtain ⟨d, hd⟩ := hh b (List.mem_cons_self ..)
        have r2 := r.2
        rw [hd] at r2 ⊢
        exact cut_rvd t s e r2
    exact g hd p4
end
/-- the promise, what is left behind forgotten -/
theorem gc_imp {P : Program} {w : World} {K : PySem.W.Frag} {mg : Str → Option Value} {base : Heap} {k : Nat} {f : Addr} {fd : FuncData} {ps : List Str} {F F' : DS}
    (h : ∀ xs st Φ Ψ, F' xs st Φ Ψ → F xs st (fun x st' => ∃ ex, st' = st ++ ex ∧ (∃ d, x = .d d) ∧ Φ x st) (fun e st' => ∃ ex, st' = st ++ ex ∧ DataE e ∧ Ψ e st)) (G : FnOk P w K mg base (L2.CX P w) k f fd ps (spD K F)) : FnOk P w K mg base (L2.CX P w) k f fd ps (spD K F') :=
  G.imp fun vs H Q E hs => by
    obtain ⟨c, xs, Φ, Ψ, rfl, s, r, hf, hq, he⟩ := hs
    refine ⟨c, xs, _, _, rfl, s, r, h xs c.st Φ Ψ hf, fun v c' x t s' r' ⟨ex, e, ⟨d, hd⟩, k⟩ => ?_, fun cls d c' er t s' r' ⟨ex, e, hd, k⟩ => ?_⟩
    · subst hd
      exact hq v (c'.cutTo c) (.d d) (cut_tr t s e) (cut_sr t s s' e) (cut_rvd t s e r') k
    · exact he cls d (c'.cutTo c) er (cut_tr t s e) (cut_sr t s s' e) (cut_er t s e r' hd) k
end AL

set_option Elab.async false
set_option linter.all false
set_option maxRecDepth 100000
set_option maxHeartbeats 4000000
/-! AL19: lists behind changes, methods behind changes, a, b = x, y, isinstance of a kept exception with a tuple of classes, the script, defs at a known place. -/
namespace AL
open PySem PySem.Spec PyProof.Rows L2
section
variable {K : PySem.W.Frag} {b : Cf} {sl : Sl} {st : Sto} {te : TE} {x y z : AV} {Φ : AV → Sto → Prop} {e : DE}
theorem wx_lstD {ta : TA} (h : Wa K b ta sl st fun xs st1 => ∃ ds : List PyData, xs = ds.map AV.d ∧ ds.length ≤ 100000 ∧ Φ (.d (.list ds)) st1) : Wx K b (tLst ta) sl st Φ := fun c σ e tb s S Q q => h c σ e tb s S _ fun vs c1 xs t1 s1 r1 ⟨ds, e2, hl, k⟩ => by
  subst e2
  have a := rvs_dta r1
  refine ⟨Nat.le_trans (by rw [a.len]; exact hl) (by decide), fun p hp => ?_⟩
  obtain ⟨t2, s2, n2⟩ := tr_new (o := .lst vs) s1 hp
  exact q (.ref p) _ (.d (.list ds)) (t1.trans t2) s2 (Dt.lst n2 upd_same (DtA.mono t2.keep _ _ a)) k
theorem wx_bm {T : String} {r : V → List V → Hp → VK → Prop} {to : TE} {ta : TA} (ho : Ev K to sl st x) (ha : Wa K b ta sl st fun xs st1 => ∃ z, Om K T r x xs st1 z ∧ Φ z st1) (h0 : ∃ xs z, Om K T r x xs st z) : Wx K b (tBM K T r to ta) sl st Φ := fun c σ e tb s S Q q =>
  ho c σ e s S _ fun v c1 t1 s1 e1 r1 => ⟨let ⟨_, _, h⟩ := h0; (h c1 v e1 s1 r1).1, ha c1 σ e1 (tb.trans t1) s1 (t1.ss S) _ fun vs c2 xs t2 s2 r2 ⟨z, hr, k⟩ =>
    (hr c2 v rfl s2 (t2.rv r1)).2 c2 vs (Tr.refl c2) s2 rfl r2 Q fun u c3 t3 s3 e3 r3 => q u c3 z ((t1.trans t2).trans t3) s3 r3 (by rw [e3]; exact k)⟩
theorem wx_sl {te : TE} {tl th : TO} {r : V → Option Int → Option Int → Hp → VK → Prop} {lo hi : Option Int} (h : Wx K b te sl st fun x st1 => ∃ z, Eo K tl sl st1 lo ∧ Eo K th sl st1 hi ∧ Os K r x lo hi st1 z ∧ Φ z st1) : Wx K b (tSl r te tl th) sl st Φ := fun c σ e tb s S Q q =>
  h c σ e tb s S _ fun v c1 x t1 s1 r1 ⟨z, h1, h2, hr, k⟩ => h1 c1 σ rfl s1 (t1.ss S) _ fun c2 t2 s2 e2 => h2 c2 σ e2 s2 ((t1.trans t2).ss S) _ fun c3 t3 s3 e3 => hr c3 v (e3.trans rfl) s3 ((t2.trans t3).rv r1) Q fun u c4 t4 s4 e4 r4 => q u c4 z (((t1.trans t2).trans t3).trans t4) s4 r4 (by rw [e4]; exact k)
theorem ws_par {i j : Nat} {ta : TA} (h : Wa K b ta sl st fun xs st1 => ∃ x y, xs = [x, y] ∧ e.nx ((sl.set i (some x)).set j (some y)) st1) : Ws K b (tPar i j ta) sl st e := fun b' hb D d c σ ec tb s S => h c σ ec (hb.trans tb) s S _ fun vs c1 xs t1 s1 r1 ⟨x, y, ex, k⟩ => by
  subst ex
  obtain ⟨v, w, rfl, r2, r3⟩ := rvs2 r1
  exact ⟨v, w, rfl, d.nx c1 _ _ (tb.trans t1) s1 (((t1.ss S).set r2).set r3) k⟩
theorem hW0 {b : Cf} : ErrOk K b (fun _ _ _ _ => False) (fun _ _ _ => False) := fun _ _ _ _ _ _ _ _ _ _ k => k
/-! ### isinstance(e, (C, ..)) of a kept exception -/
def rIsXT (K : PySem.W.Frag) : List V → Hp → VK → Prop := fun xs H Q => ∃ (a D tp : Addr) (Cs : List Addr) (d : Option Addr) (fs : List (Str × V)) (b : Bool), xs = [.ref a, .ref tp] ∧ H tp = some (.tup (Cs.map V.ref)) ∧ H a = some (exk a (.ref D) d) ∧ XDict H d fs ∧ ExcC K D ∧ PySem.W.kitAny K (.ref D) (Cs.map Value.ref) = some b ∧ Q (.bl b) H
theorem refs_vals : ∀ {Cs : List Addr} {us : List Value}, Vals (Cs.map V.ref) us → us = Cs.map Value.ref
  | [], _, .nil => rfl
  | C :: Cs, _, .cons r t => by
    have r : _ = Value.ref C := r
    rw [r, refs_vals t]
    rfl
theorem call_isXT {X : Cx} : CallR X (.builtin "isinstance") (rIsXT X.K) := by
  intro pins s σ H xs us Q I r h
  obtain ⟨a, D, tp, Cs, d, fs, b, rfl, hT, ea, x, T, e, q⟩ := h
  obtain ⟨u1, u2, rfl, r1, r2⟩ := vals2 r
  cases r1
  cases r2
  obtain ⟨oe, od, J, _⟩ := exk_inst I ea x
  obtain ⟨_, its, rv, o, h1, h2, n, h3⟩ := (show ObjOk X.prog X.w H s.heap tp (.tup (Cs.map V.ref)) from I.hok tp _ hT)
  have e3 := refs_vals rv
  subst e3
  obtain ⟨oc, od2, dt, sl⟩ := o
  simp only at h2 h3
  subst h2 h3
  exact PySem.W.kia_tup (kitx_excO T.hg T.hk T.hs T.hd T.ha T.hn T.ht T.hm) I.kIn J h1 e (fun z => nomatch z) fun tk => ⟨.bl b, H, I.kept (t' := tk) fun _ _ z => z, rfl, q⟩
theorem x_isXT {X : Cx} {K : PySem.W.Frag} {e e2 : Expr} {te te2 : TE} {p pos : Pos} (B : BT X.mg) (ha : PE X e te) (ha2 : PE X e2 te2) (hg : Gl X "isinstance" := by rfl)
    (hs1 : starEach [e, e2] X.env = (false, eval e X.env) :: starEach [e2] X.env := by rfl) (hs2 : starEach [e2] X.env = (false, eval e2 X.env) :: starEach [] X.env := by rfl) (hpl : (backTo pos (starEach [e2] X.env)).any (·.1) = false := by rfl) (hK : X.K = K := by rfl) :
    PE X (.Call (.Name "isinstance" p) [e, e2] [] pos) (tCB (rIsXT K) (tCons te (tCons te2 tNil))) := by
  subst hK
  exact pe_callB call_isXT hg B.isinstance PyProof.Rows.boot_isinstance (pa_cons ha (pa_cons ha2 pa_nil hs2) hs1) (by decide) (by decide) hs1 hpl
/-- the tuple stands written in the call -/
theorem ev_isXT {n : Nat} {D : Addr} {Cs : List Addr} {fs : List (Str × AV)} {r : Bool} {ta : TA} (hx : Ev K te sl st (.o n)) (ha : Ea K ta sl st (Cs.map fun C => .raw (.ref C))) (hl : Cs.length ≤ 1000) (hn : st[n]? = some (.exc (.ref D) fs)) (T : ExcC K D) (h : PySem.W.kitAny K (.ref D) (Cs.map Value.ref) = some r) :
    Ev K (tCB (rIsXT K) (tCons te (tCons (tTup ta) tNil))) sl st (dB r) := fun c σ e s S Q q =>
  hx c σ e s S _ fun v c1 t1 s1 e1 r1 => ha c1 σ e1 s1 (t1.ss S) _ fun vs c2 t2 s2 e2 r2 => by
  have g : ∀ {vs : List V} {Cs : List Addr}, Rvs K c2 vs (Cs.map fun C => .raw (.ref C)) → vs = Cs.map V.ref := by
    intro vs Cs
    induction Cs generalizing vs with
    | nil => intro r; cases r; rfl
    | cons C Cs ih =>
      intro r
      cases r with
      | cons r t =>
        cases r
        rw [ih t]
        rfl
  have := g r2
  subst this
  refine ⟨Nat.le_trans (by rw [List.length_map]; exact hl) (by decide), fun p hp => ?_⟩
  obtain ⟨t3, s3, n3⟩ := tr_new (o := .tup (Cs.map V.ref)) s2 hp
  have T3 := t2.trans t3
  obtain ⟨a, ia, rfl⟩ := T3.rv (x := .o n) r1
  obtain ⟨d, ws, h1, _, h3, _⟩ := s3.ob n a _ ia (by show c2.st[n]? = _; rw [e2]; exact hn)
  exact ⟨a, D, p, Cs, d, ws, r, rfl, upd_same, h1, h3, T, h, q _ _ (t1.trans T3) s3 e2 (.bl _)⟩
/-! ### the script -/
def Scr (K : PySem.W.Frag) (c : Cf) (a : Addr) (ns : List Int) : Prop := (∃ o, c.hp a = some (.frz o (.lst (ns.map V.int))) ∧ ¬ c.Alive a) ∨ ∀ H, SqL K H a (ns.map V.int)
theorem Scr.mono {c c' : Cf} {a : Addr} {ns : List Int} (h : Scr K c a ns) (t : Tr c c') : Scr K c' a ns := by
  rcases h with ⟨o, h1, h2⟩ | h
  · exact Or.inl ⟨o, (t.keep a _ h2 h1).2, (t.keep a _ h2 h1).1⟩
  · exact Or.inr h
theorem Scr.sq {c : Cf} {a : Addr} {ns : List Int} (h : Scr K c a ns) : SqL K c.hp a (ns.map V.int) := by
  rcases h with ⟨o, h1, h2⟩ | h
  · exact Or.inl (Or.inr ⟨o, h1⟩)
  · exact h _
theorem scr_of {c : Cf} {a : Addr} {ns : List Int} (hO : c.hp a = none ∨ ∃ o xs, c.hp a = some (.frz o (.lst xs))) (hn : ¬ c.Alive a) (h : SqL K c.hp a (ns.map V.int)) : Scr K c a ns := by
  rcases h with (h | ⟨o, h⟩) | h
  · rcases hO with z | ⟨o, xs, z⟩
    · rw [h] at z; cases z
    · rw [h] at z; cases z
  · exact Or.inl ⟨o, h, hn⟩
  · exact Or.inr fun H => Or.inr h
theorem wx_lenR {i : Nat} {a : Addr} {ns : List Int} (hs : Scr K b a ns) (h : sl[i]? = some (some (.raw (.ref a)))) (k : Φ (dI ns.length) st) : Wx K b (tCB (rLEN K) (tCons (tVar i) tNil)) sl st Φ := fun c σ e tb s S Q q => by
  obtain ⟨v, h1, h2⟩ := S.2 i _ h
  cases h2
  exact ⟨_, h1, .ref a, ns.length, rfl, Or.inl ⟨_, (hs.mono tb).sq, by rw [List.length_map]⟩, q _ c (dI ns.length) (Tr.refl c) s (.int _) (by rw [e]; exact k)⟩
theorem wx_ixR {i : Nat} {a : Addr} {ns : List Int} {te : TE} {j x : Int} (hs : Scr K b a ns) (h : sl[i]? = some (some (.raw (.ref a)))) (hi : Ev K te sl st (dI j)) (hx : atI ns j = some x) (k : Φ (dI x) st) : Wx K b (tOp (rIx K) (tVar i) te) sl st Φ := fun c σ e tb s S Q q => by
  obtain ⟨v, h1, h2⟩ := S.2 i _ h
  cases h2
  refine ⟨_, h1, hi c σ e s S _ fun w c1 t1 s1 e1 r1 => Or.inl ⟨a, ns.map V.int, j, .int x, rfl, rv_i r1, (hs.mono (tb.trans t1)).sq, ?_, q _ c1 (dI x) t1 s1 (.int _) (by rw [e1]; exact k)⟩⟩
  unfold atI at hx ⊢
  rw [List.length_map]
  cases hj : ixN ns.length j with
  | none => rw [hj] at hx; cases hx
  | some m =>
    rw [hj] at hx
    have hx : ns[m]? = some x := hx
    show (ns.map V.int)[m]? = _
    rw [List.getElem?_map, hx]
    rfl
end
end AL

set_option Elab.async false
set_option linter.all false
set_option maxRecDepth 100000
set_option maxHeartbeats 4000000
/-! AL20: a law's end where the law's def is shown at the caller's place alone (no guard stands there: repr). After the library's fn_of, law_call, walk_ofE. -/
namespace AL
open PySem PySem.Spec PyProof.Rows L2
/-- the promise at the law's caller -/
def AtC (P : Program) (w : World) (K : PySem.W.Frag) (mg : Str → Option Value) (base : Heap) (CX : CXT) (f : Addr) (fd : FuncData) (ps : List Str) (sp : Sp) : Prop :=
  ∀ (s : Shared) (H : Hp) (args : Args) (us : List Value) (vs : List V) (Q : VK) (E : XK), Env0 P w K mg base callerA [] s H → BindsTo s fd args (ps.zip us) → Vals vs us → sp vs H Q E → codeAny (model P w) callerA (.call (.ref f) args) (CR CX [] P w H s Q E) s
theorem FunD.at_ {CX : CXT} {P : Program} {w : World} {K : PySem.W.Frag} {mg : Str → Option Value} {base : Heap} {k : Nat} {f : Addr} {x qual : Str} {params : Arguments} {body : List Stmt} {scope : Scope} {dvs : List V} {kws : List (Str × V)} {fd : FuncData} {N ps : List Str} {sp : Sp} (F : FunD K x qual params body scope dvs kws f fd) (S : FnScope N ps scope)
    (len : ∀ vs H Q E, sp vs H Q E → vs.length = ps.length) (hr : Room (k + 1) callerA)
    (hbody0 : ∀ (cdv : Value) (s : Shared) (H : Hp) (vs : List V) (Q : VK) (E : XK), Room k (callerA.deeper (envOfC qual scope s.heap.objs.size f cdv)) → (callerA.deeper (envOfC qual scope s.heap.objs.size f cdv)).guards = some [] → sp vs H Q E →
      ∃ t, PSs (cxOf CX P w K mg base N qual scope f cdv callerA [] s H E) body t ∧ t { nx := fun _ H' => Q .non H', rt := Q } (start N vs) H) :
    AtC P w K mg base CX f fd ps sp := by
  obtain ⟨oc, od, dV, kV, doc, pm, an, cdv, ct, osl, rfl, lk, hcd, _, _⟩ := F.ex
  have hbody := hbody0 cdv
  intro s H args us vs Q E e0 hb r hsp
  have hl := len _ _ _ _ hsp
  have KX : K.In s.heap := e0.mod.kin.keeps fun b o e => (e0.bs b o e).1
  have lim : s.heap.NoLimit := e0.mod.nolimit.keeps fun b o e => (e0.bs b o e).1
  have hkind : ∀ y ∈ ps.zip us, scope.names.lookup y.1 = some .local ∨ (scope.names.lookup y.1 = some .cell ∧ ((cellsFrom (s.heap.objs.size + 1) scope.names []).lookup y.1).isSome = true) := fun ⟨n, v⟩ hy => by
    rcases S.par n (List.of_mem_zip hy).1 with q | q
    · exact .inl q
    · exact .inr ⟨q, PySem.W.cellsFrom_some _ _ _ (.inl q)⟩
  refine codeAny_call_function hr.depth (KX _ _ lk) rfl S.co S.gen rfl (PySem.W.codeRec_of KX hcd) (hb _ _ _ _ ?_)
  refine wpAny_newFunctionEnv_cells S.kind hkind fun env he s1 x => ?_
  subst he
  refine ⟨lim.keeps x.toInCall.keep, codeAny_func ?_⟩
  obtain ⟨t, ht, hq⟩ := hbody s H vs Q E (hr.deeper _) rfl hsp
  have I : Inv (cxOf CX P w K mg base N qual scope f cdv callerA [] s H E) [] (start N vs) H s1 := inv_start S hr.hd e0 hl r x
  refine wpAny_mono (ht.run [] s1 (start N vs) H _ I hq) (fun fl s' hs => ?_) fun e s' hs => hs
  have fin : ∀ {σ' : L2.St} {H' : Hp} {v : V} {u : Value}, Inv (cxOf CX P w K mg base N qual scope f cdv callerA [] s H E) [] σ' H' s' → RelV v u → Q v H' → CE [] P w H s Q u s' :=
    fun {σ' H' v u} J rv q => ⟨v, H', J.os, J.bare, J.base, J.hok, rv, q⟩
  cases fl with
  | ret u =>
    obtain ⟨v, σ', H', J, rv, q⟩ := hs
    exact fin J rv q
  | next =>
    obtain ⟨σ', H', J, q⟩ := hs
    exact fin (v := V.non) (u := Value.none) J rfl q
  | brk =>
    obtain ⟨_, _, _, q⟩ := hs
    exact False.elim q
  | cont =>
    obtain ⟨_, _, _, q⟩ := hs
    exact False.elim q
theorem law_callG {P : Program} {w : World} {K : PySem.W.Frag} {mg mb : Str → Option Value} {CX : CXT} {fa a : Addr} {fd : FuncData} {x : Str} {sp : Sp} {s₁ : Shared} {vs : List Value} {ns : List Int}
    (KX : K.In s₁.heap) (hns : s₁.heap.Ns mainGlobals mg) (hb : s₁.heap.Ns builtinsNs mb) (hbb : ∀ x : Str, x ≠ "__name__" → mb x = bootBuiltins x) (hlim : s₁.heap.NoLimit) (hg : s₁.gens = #[])
    (ha : s₁.heap.get? a = some { cls := .type "list", data := .seq vs.toArray }) (hi : IntsAre vs ns) (hl : ns.length ≤ sizeLine)
    (F : ∀ base : Heap, K.In base → base.Ns mainGlobals mg → AtC P w K mg base CX fa fd [x] sp) (hbind : ∀ (s : Shared) (u : Value), BindsTo s fd ⟨[u], []⟩ [(x, u)])
    (hsp : ∀ H : Hp, Only H → SqL K H a (ns.map V.int) → sp [.ref a] H (fun v _ => v = .bl true) fun _ _ _ => False)
    (hCX : ∀ H e s', CX [] H s₁ (fun _ _ _ => False) e s' → False) :
    codeAny (model P w) callerA (.call (.ref fa) ⟨[.ref a], []⟩) (fun r s' => r = .ok (.ret (.bool true)) ∧ OldK s₁.heap s'.heap ∧ s'.os = s₁.os ∧ AllBare s'.gens) s₁ := by
  have rv := vals_ints hi
  have lenV := hi.length
  -- from an abstract heap in which nothing but the script may be tracked
  have core : ∀ H : Hp, Only H → SqL K H a (ns.map V.int) → HOk P w H s₁.heap → (∀ b, H b ≠ none → b = a) → (H a ≠ none → K.lookup a = none) →
      codeAny (model P w) callerA (.call (.ref fa) ⟨[.ref a], []⟩) (fun r s' => r = .ok (.ret (.bool true)) ∧ OldK s₁.heap s'.heap ∧ s'.os = s₁.os ∧ AllBare s'.gens) s₁ := by
    intro H hO hS hok hA hK
    have base_of : ∀ {b : Addr} {o : Obj}, s₁.heap.get? b = some o → H b = none → (hidT s₁.heap H).get? b = some o := fun e n => hidT_get e n
    have noA : ∀ {b : Addr} {o : Obj} {es : Array DictEntry} {ep : Nat}, s₁.heap.get? b = some o → o.data = .dict es ep → H b = none := fun {b o es ep} e d => by
      cases q : H b with
      | none => rfl
      | some u =>
        have e' : b = a := hA b (by rw [q]; simp)
        subst e'
        rw [ha] at e; cases e
        have d' : Data.seq vs.toArray _ = Data.dict es ep := d
        cases d'
    have nsK : ∀ {b : Addr} {m : Str → Option Value}, s₁.heap.Ns b m → (hidT s₁.heap H).Ns b m := fun {b m} ⟨o, es, ep, e, d, r⟩ => ⟨o, es, ep, base_of e (noA e d), d, r⟩
    have hKb : K.In (hidT s₁.heap H) := fun b o e => base_of (KX b o e) (by
      cases q : H b with
      | none => rfl
      | some u =>
        have e' : b = a := hA b (by rw [q]; simp)
        subst e'
        rw [hK (by rw [q]; simp)] at e; cases e)
    have hM : Mod K mg (hidT s₁.heap H) := ⟨hKb, nsK hns, ⟨mb, nsK hb, hbb⟩, let ⟨mc, h1, h2⟩ := hlim; ⟨mc, nsK h1, h2⟩⟩
    have e0 : Env0 P w K mg (hidT s₁.heap H) callerA [] s₁ H := ⟨rfl, hM, fun b o e => of_hidT e, Nat.le_of_eq (hidT_size _ _), trivial, fun b hb => absurd (show b ∈ ([] : List Addr) from hb) (by simp), hok, .of_eq hg⟩
    refine codeAny_mono (F _ hKb (nsK hns) s₁ H ⟨[.ref a], []⟩ [.ref a] [.ref a] _ _ e0 (hbind s₁ (.ref a)) (.cons rfl .nil) (hsp H hO hS)) fun r s' h => ?_
    cases r with
    | error e => exact (hCX H e s' h).elim
    | ok fl =>
      cases fl with
      | next => exact False.elim h
      | brk => exact False.elim h
      | cont => exact False.elim h
      | ret u =>
        obtain ⟨v, H', os, bare, un, hok', r', q⟩ := h
        have q' : v = .bl true := q
        subst q'
        obtain rfl : u = Value.bool true := r'
        refine ⟨rfl, OldK.of_keep fun b o e => ?_, os, bare⟩
        cases q : H b with
        | none => exact un.keep b o e q (by intro z; exact absurd (show b ∈ ([] : List Addr) from z) (by simp)) (by simp)
        | some u =>
          rcases hO b with z | ⟨ob, xs, z⟩
          · rw [q] at z; cases z
          · have z2 := un.frzs b ob _ z
            obtain ⟨e1, _⟩ := hok b _ z
            obtain ⟨e2, _⟩ := hok' b _ z2
            rw [e] at e1; cases e1
            exact e2
  cases hk : K.lookup a with
  | some o =>
    -- the script is one of the module's own objects
    have e := KX a o hk
    rw [ha] at e
    cases e
    refine core (fun _ => none) (fun _ => .inl rfl) (.inr ⟨_, vs.toArray, _, hk, rfl, rfl, rfl, by rw [List.size_toArray, lenV]; exact hl, by simpa using rv⟩) (fun b u z => by have z' : (none : Option HO) = some u := z; cases z') (fun b z => absurd rfl z) fun z => absurd rfl z
  | none =>
    refine core (fun b => if b = a then some (.frz { cls := .type "list", data := .seq vs.toArray } (.lst (ns.map V.int))) else none) (fun b => ?_) (.inl (.inr ⟨{ cls := .type "list", data := .seq vs.toArray }, if_pos rfl⟩)) (fun b u z => ?_) (fun b z => ?_) fun _ => hk
    · by_cases hb : b = a
      · exact .inr ⟨_, _, if_pos hb⟩
      · exact .inl (if_neg hb)
    · by_cases hb : b = a
      · have z' := (if_pos hb).symm.trans z
        cases z'
        subst hb
        exact ⟨ha, by rw [List.length_map]; exact hl, vs, _, rv, ha⟩
      · have z' := (if_neg hb).symm.trans z
        cases z'
    · by_cases hb : b = a
      · exact hb
      · exact absurd (if_neg hb) z
theorem walk_ofG {l : PySem.W.OpenLaw} {n : Nat} {q : Program} {loose : List Str} {XP : (Str → Option Value) → Heap → Prop} {YP : World → Heap → Prop} {d : DefRec} {CX : World → CXT} {x : Str}
    (hn : l.most = some n) (hn2 : n ≤ sizeLine) (hdf : d.params.defaults = [])
    (F : ∀ (w : World) (mg : Str → Option Value) (fa : Addr) (h : Heap), YP w h → h.Ns mainGlobals mg → mg d.name = some (.ref fa) →
      ∃ (K : PySem.W.Frag) (fd : FuncData) (sp : Sp), K.In h ∧ (∀ (s : Shared) (u : Value), BindsTo s fd ⟨[u], []⟩ [(x, u)]) ∧
        (∀ (H : Hp) (a : Addr) (ns : List Int), ns.length ≤ n → Only H → SqL K H a (ns.map V.int) → sp [.ref a] H (fun v _ => v = .bl true) fun _ _ _ => False) ∧
        ∀ base : Heap, K.In base → base.Ns mainGlobals mg → AtC l.prog w K mg base (CX w) fa fd [x] sp)
    (hCX : ∀ (w : World) (H : Hp) (s : Shared) (e : Value) (s' : Shared), CX w [] H s (fun _ _ _ => False) e s' → False) :
    PySem.W.WalkO q loose XP YP l.row.toRowW d [] (fun f vs => PySem.call f vs) := by
  refine Att.attach_call hn hdf fun w s₀ s₁ mg mb fa o pm cd doc a vs ns G Y ho hd hcd hmg hobj hints hlen hg => ?_
  obtain ⟨K, fd, sp, KX, hb, hsp, hF⟩ := F w mg fa _ Y G.T.g hmg
  exact law_callG KX G.T.g G.T.b G.T.builtins G.T.nolimit hg hobj hints (Nat.le_trans hlen hn2) hF hb (fun H hO hS => hsp H a ns hlen hO hS) fun H e s' => hCX w H s₁ e s'
end AL

set_option Elab.async false
set_option linter.all false
set_option maxRecDepth 100000
set_option maxHeartbeats 4000000
/-! TX1: plain law of texts: cut and join, numbers. -/
namespace TX
open PySem
abbrev S (l : List Nat) : Str := ⟨l.toArray⟩
theorem S_tl (z : Str) : S z.cps.toList = z := SX.S_tl z
theorem S_len (l : List Nat) : (S l).length = l.length := SX.S_len l
theorem len_tl (z : Str) : z.length = z.cps.toList.length := TL.len_tl z
/-- l cut at each c -/
def cut (c : Nat) : List Nat → List (List Nat)
  | [] => [[]]
  | x :: r => if x = c then [] :: cut c r else match cut c r with
    | h :: t => (x :: h) :: t
    | [] => [[x]]
theorem cut_ne (c : Nat) : ∀ l, cut c l ≠ []
  | [] => by simp [cut]
  | x :: r => by
    unfold cut
    by_cases h : x = c
    · rw [if_pos h]; simp
    · rw [if_neg h]
      cases cut c r <;> simp
theorem cut_sep {c : Nat} (r : List Nat) : cut c (c :: r) = [] :: cut c r := by
  conv => lhs; unfold cut
  rw [if_pos rfl]
theorem cut_cons {c x : Nat} {r h : List Nat} {t : List (List Nat)} (hx : x ≠ c) (e : cut c r = h :: t) : cut c (x :: r) = (x :: h) :: t := by
  conv => lhs; unfold cut
  rw [if_neg hx, e]
theorem spl_cut (c : Nat) : ∀ (l acc : List Nat), TL.spl [c] 0 acc l = match cut c l with
    | h :: t => (acc ++ h) :: t
    | [] => []
  | [], acc => by simp [cut, TL.spl_nil]
  | x :: r, acc => by
    by_cases h : x = c
    · subst h
      rw [TL.spl_hit (by simp [TL.pre]), cut_sep]
      simp only [List.length_cons, List.length_nil, Nat.zero_add, Nat.sub_self, List.append_nil]
      rw [spl_cut x r []]
      have := cut_ne x r
      cases e : cut x r with
      | nil => exact absurd e this
      | cons a b => simp
    · rw [TL.spl_miss (by simp [TL.pre, h]), spl_cut c r]
      cases e : cut c r with
      | nil => exact absurd e (cut_ne c r)
      | cons a b => rw [cut_cons h e]; simp
theorem split_cut {l : List Nat} {c : Nat} (hc : c < 256) : Txt.split (S l) (S [c]) = (cut c l).map S := by
  rw [SX.split_S (by simp) (by simpa using hc), spl_cut]
  cases e : cut c l with
  | nil => exact absurd e (cut_ne c l)
  | cons a b => simp
theorem join_S (c : List Nat) (ys : List (List Nat)) : Txt.join (S c) (ys.map S) = S (TL.joinL c ys) := SX.join_S c ys
theorem join_cut (c : Nat) : ∀ l, TL.joinL [c] (cut c l) = l
  | [] => rfl
  | x :: r => by
    by_cases h : x = c
    · subst h
      rw [cut_sep]
      have := join_cut x r
      cases e : cut x r with
      | nil => exact absurd e (cut_ne x r)
      | cons a b => rw [e] at this; simp [TL.joinL, this]
    · have := join_cut c r
      cases e : cut c r with
      | nil => exact absurd e (cut_ne c r)
      | cons a b =>
        rw [cut_cons h e]
        rw [e] at this
        cases b with
        | nil => simp [TL.joinL] at this ⊢; exact this
        | cons b bs => simp [TL.joinL] at this ⊢; exact this
theorem cut_free (c : Nat) : ∀ l, ∀ p ∈ cut c l, c ∉ p
  | [], p, hp => by simp [cut] at hp; subst hp; simp
  | x :: r, p, hp => by
    have ih := cut_free c r
    by_cases h : x = c
    · subst h
      rw [cut_sep] at hp
      rcases List.mem_cons.mp hp with rfl | hp
      · simp
      · exact ih p hp
    · cases e : cut c r with
      | nil => exact absurd e (cut_ne c r)
      | cons a b =>
        rw [cut_cons h e] at hp
        rw [e] at ih
        rcases List.mem_cons.mp hp with rfl | hp
        · simp only [List.mem_cons, not_or]
          exact ⟨fun z => h z.symm, ih a (List.mem_cons_self ..)⟩
        · exact ih p (List.mem_cons_of_mem _ hp)
theorem cut_join {c : Nat} {ps : List (List Nat)} (hne : ps ≠ []) (h : ∀ p ∈ ps, c ∉ p) : cut c (TL.joinL [c] ps) = ps := by
  have e := TL.spl_join (s := c) (S := []) hne h
  rw [spl_cut] at e
  cases q : cut c (TL.joinL [c] ps) with
  | nil => exact absurd q (cut_ne _ _)
  | cons a b => rw [q] at e; simpa using e
theorem cut_mem (c : Nat) : ∀ l, ∀ p ∈ cut c l, ∀ x ∈ p, x ∈ l
  | [], p, hp, x, hx => by simp [cut] at hp; subst hp; cases hx
  | y :: r, p, hp, x, hx => by
    have ih := cut_mem c r
    by_cases h : y = c
    · subst h
      rw [cut_sep] at hp
      rcases List.mem_cons.mp hp with rfl | hp
      · cases hx
      · exact List.mem_cons_of_mem _ (ih p hp x hx)
    · cases e : cut c r with
      | nil => exact absurd e (cut_ne c r)
      | cons a b =>
        rw [cut_cons h e] at hp
        rw [e] at ih
        rcases List.mem_cons.mp hp with rfl | hp
        · rcases List.mem_cons.mp hx with rfl | hx
          · exact List.mem_cons_self ..
          · exact List.mem_cons_of_mem _ (ih a (List.mem_cons_self ..) x hx)
        · exact List.mem_cons_of_mem _ (ih p (List.mem_cons_of_mem _ hp) x hx)
theorem cut_len (c : Nat) : ∀ l, (cut c l).length ≤ l.length + 1
  | [] => by simp [cut]
  | x :: r => by
    have ih := cut_len c r
    by_cases h : x = c
    · subst h
      rw [cut_sep]
      simp; omega
    · cases e : cut c r with
      | nil => exact absurd e (cut_ne c r)
      | cons a b => rw [cut_cons h e]; rw [e] at ih; simp at ih ⊢; omega
theorem cut_sum (c : Nat) : ∀ l, ((cut c l).map List.length).sum + (cut c l).length = l.length + 1
  | [] => by simp [cut]
  | x :: r => by
    have ih := cut_sum c r
    by_cases h : x = c
    · subst h
      rw [cut_sep]
      simp; omega
    · cases e : cut c r with
      | nil => exact absurd e (cut_ne c r)
      | cons a b => rw [cut_cons h e]; rw [e] at ih; simp at ih ⊢; omega
theorem mem_le_sum : ∀ {ps : List (List Nat)} {p : List Nat}, p ∈ ps → p.length ≤ (ps.map List.length).sum
  | q :: ps, p, h => by
    rcases List.mem_cons.mp h with rfl | h
    · simp
    · have := mem_le_sum h; simp; omega
theorem cut_le {c : Nat} {l p : List Nat} (h : p ∈ cut c l) : p.length ≤ l.length := by
  have h1 := mem_le_sum h
  have h2 := cut_sum c l
  have h3 : 1 ≤ (cut c l).length := by
    cases e : cut c l with
    | nil => rw [e] at h; cases h
    | cons a b => simp
  omega
theorem joinL_len (s : List Nat) : ∀ ps : List (List Nat), (TL.joinL s ps).length ≤ (ps.map List.length).sum + ps.length * s.length
  | [] => by simp [TL.joinL]
  | [p] => by simp [TL.joinL]
  | p :: q :: r => by
    have ih := joinL_len s (q :: r)
    simp only [TL.joinL, List.length_append, List.map_cons, List.sum_cons, List.length_cons] at ih ⊢
    have : (r.length + 1 + 1) * s.length = (r.length + 1) * s.length + s.length := by rw [Nat.succ_mul]
    omega
theorem lens (l : List (List Nat)) : (l.map S).map (·.length) = l.map List.length := SX.lens l
theorem starts_S {a : List Nat} {c : Nat} : Txt.startswith (S a) (S [c]) = (a.head? == some c) := by
  unfold Txt.startswith Builtin.Str.subAt
  cases a with
  | nil => simp [S, Str.length]
  | cons x r => simp [S, Str.length, List.range_succ]
end TX
namespace TX
open PySem
def okZ (z : Str) : Prop := z.length ≤ 100000 ∧ ∀ c ∈ z.cps.toList, c < 1114112
/-- data of that depth at most, texts short, no dict -/
def Fl : Nat → PyData → Prop
  | _, .none => True
  | _, .bool _ => True
  | _, .int _ => True
  | _, .str z => okZ z
  | 0, .list _ => False
  | 0, .tuple _ => False
  | n + 1, .list ds => ∀ d ∈ ds, Fl n d
  | n + 1, .tuple ds => ∀ d ∈ ds, Fl n d
  | _, .dict _ => False
theorem strOk_of {z : Str} (h : okZ z) : PyData.canLay0 (.str z) = true := by
  show (z.cps.all (· < 0x110000)) = true
  rw [← Array.all_toList, List.all_eq_true]
  intro c hc
  exact decide_eq_true (h.2 c hc)
theorem layAll {n : Nat} (ih : ∀ d : PyData, Fl n d → PyData.canLay0 d = true ∧ d.depth ≤ n) : ∀ ds : List PyData, (∀ d ∈ ds, Fl n d) → PyData.canLayAll0 ds = true ∧ PyData.depthAll ds ≤ n
  | [], _ => ⟨rfl, Nat.zero_le _⟩
  | d :: ds, h => by
    obtain ⟨h1, h2⟩ := ih d (h d (List.mem_cons_self ..))
    obtain ⟨h3, h4⟩ := layAll ih ds fun x hx => h x (List.mem_cons_of_mem _ hx)
    refine ⟨?_, ?_⟩
    · simp only [PyData.canLayAll0, h1, h3, Bool.and_self]
    · simp only [PyData.depthAll]; omega
theorem lay_fl : ∀ (n : Nat) (d : PyData), Fl n d → PyData.canLay0 d = true ∧ d.depth ≤ n
  | n, .none, _ => ⟨by simp only [PyData.canLay0], by simp only [PyData.depth]; omega⟩
  | n, .bool _, _ => ⟨by simp only [PyData.canLay0], by simp only [PyData.depth]; omega⟩
  | n, .int _, _ => ⟨by simp only [PyData.canLay0], by simp only [PyData.depth]; omega⟩
  | n, .str z, h => ⟨strOk_of (by cases n <;> exact h), by simp only [PyData.depth]; omega⟩
  | 0, .list _, h => False.elim h
  | 0, .tuple _, h => False.elim h
  | n + 1, .list ds, h => by
    obtain ⟨h1, h2⟩ := layAll (lay_fl n) ds h
    exact ⟨by simp only [PyData.canLay0]; exact h1, by simp only [PyData.depth]; omega⟩
  | n + 1, .tuple ds, h => by
    obtain ⟨h1, h2⟩ := layAll (lay_fl n) ds h
    exact ⟨by simp only [PyData.canLay0]; exact h1, by simp only [PyData.depth]; omega⟩
  | 0, .dict _, h => False.elim h
  | n + 1, .dict _, h => False.elim h
theorem shaped_fl {n : Nat} {d : PyData} (h : Fl n d) (hn : n ≤ 64 := by decide) : SeqAt.shaped d = true := by
  obtain ⟨h1, h2⟩ := lay_fl n d h
  show (d.canLay0 && decide (d.depth ≤ 64)) = true
  rw [h1, Bool.true_and]
  exact decide_eq_true (Nat.le_trans h2 hn)
end TX

set_option Elab.async false
set_option linter.all false
set_option maxRecDepth 100000
set_option maxHeartbeats 4000000
namespace K68
open PySem PySem.Spec PyProof.Rows L2 AL
def top (i : Nat) : Stmt := PySem.Challenge.pw_appendlease_k68_texts_of_no_log.main.body.getD i (.Pass ⟨0, 0, 0, 0⟩)
/-! ### plain -/
def LETTERS : Str := "abcdefghijklmnopqrstuvwxyz"
def isWhole : PyData → Bool
  | .int _ => true
  | _ => false
def isWord : PyData → Bool
  | .str z => (decide (1 ≤ (z.length : Int)) && decide ((z.length : Int) ≤ 8)) && z.cps.toList.all fun c => decide (c ∈ LETTERS.cps.toList)
  | _ => false
def isPath : PyData → Bool
  | .tuple ds => decide ((ds.length : Int) ≤ 5) && ds.all isWord
  | _ => false
def isTime : PyData → Bool
  | .none => true
  | x => isWhole x
open TX (Fl okZ)
/-! ### promises -/
def fIsWhole : DS := fun xs st Φ _ => ∃ x, xs = [.d x] ∧ Φ (dB (isWhole x)) st
def fIsWord : DS := fun xs st Φ _ => ∃ x n, xs = [.d x] ∧ Fl n x ∧ Φ (dB (isWord x)) st
def fIsPath : DS := fun xs st Φ _ => ∃ x n, xs = [.d x] ∧ Fl n x ∧ Φ (dB (isPath x)) st
def fIsTime : DS := fun xs st Φ _ => ∃ x, xs = [.d x] ∧ Φ (dB (isTime x)) st
section
variable {P : Program} {w : World} {K : PySem.W.Frag} {mg : Str → Option Value} {base : Heap} {f : Addr} {fd : FuncData} {dvs : List V} {kws : List (Str × V)}
abbrev Fn (K : PySem.W.Frag) (x : Str) (i : Nat) (f : Addr) (fd : FuncData) : Prop := FunD K x x (defArgs (top i)) (defBody (top i)) (defScope (top i)) [] [] f fd
theorem sc_is_whole : FnScope ["thing"] ["thing"] (defScope (top 10)) := C8.fnScope_by (by decide +kernel)
theorem sc_is_word : FnScope ["thing", "sign"] ["thing"] (defScope (top 11)) := C8.fnScope_by (by decide +kernel)
theorem sc_is_path : FnScope ["thing", "word"] ["thing"] (defScope (top 12)) := C8.fnScope_by (by decide +kernel)
theorem sc_is_time : FnScope ["thing"] ["thing"] (defScope (top 14)) := C8.fnScope_by (by decide +kernel)
theorem ok_is_whole (B : BT mg) (F : Fn K "is_whole" 10 f fd) : FnOk P w K mg base (L2.CX P w) 1 f fd ["thing"] (spD K fIsWhole) := by
  refine fn_D F sc_is_whole (fun xs st Φ Ψ h => ?_) (fun cdv A outer s H E hr => ⟨_, (pss_one (ps_ret (pe_and (pe_is B (pv 0) (ty_int B)) (pe_one (pe_not (pe_is B (pv 0) (ty_bool B))))))), fun b xs st Φ Ψ h hW => ?_⟩)
  · obtain ⟨x, rfl, _⟩ := h
    rfl
  · obtain ⟨x, rfl, k⟩ := h
    refine ws_retE (x := dB (isIntD x && !isBoolD x)) (ev_andV (ev_isI (ev_var rfl)) fun _ => ev_notV (ev_isB (ev_var rfl))) ?_
    have : (isIntD x && !isBoolD x) = isWhole x := by cases x <;> rfl
    rw [this]
    exact k
theorem ok_is_word (B : BT mg) (F : Fn K "is_word" 11 f fd) (g_LONGEST : ∃ u, mg "LONGEST" = some u ∧ RelV (.int 8) u) (g_LETTERS : ∃ u, mg "LETTERS" = some u ∧ RelV (.str LETTERS) u) : FnOk P w K mg base (L2.CX P w) 1 f fd ["thing"] (spD K fIsWord) := by
  refine fn_D F sc_is_word (fun xs st Φ Ψ h => ?_) (fun cdv A outer s H E hr => ⟨_, (pss_cons (ps_if (PW.pt (pw_or (pt_not (pt_val (pe_is B (pv 0) (ty_str B)))) (pw_or1 (pt_not (pt_chain op_LE op_LE pe_int (pe_len B (pv 0)) (C8.pe_gc rfl g_LONGEST)))))) (pss_one (ps_ret pe_bl)) pss_nil)
      (pss_one (ps_ret (pe_all B (pe_lc (own := [("sign", 1)]) (g := gName 1) (tt := tYes) rfl sc_is_word.nd (pi_str (pv 0)) (blkOk_by (N := ["thing", "sign"]) (sc := defScope (top 11)) (by decide +kernel)) (fun _ _ _ _ _ => pg_name (i := 1) sc_is_word.nd rfl (Or.inl rfl)) (fun _ _ _ _ _ => pts_nil) (fun _ _ _ _ _ => (x_inS (pv 1) (C8.pe_gc rfl g_LETTERS)))))))), fun b xs st Φ Ψ h hW => ?_⟩)
  · obtain ⟨x, _, rfl, _⟩ := h
    rfl
  · obtain ⟨x, n, rfl, hx, k⟩ := h
    cases x with
    | str z =>
      have hx : z.length ≤ 10000000 := Nat.le_trans (show okZ z by cases n <;> exact hx).1 (by decide)
      refine ws_guard (et_or (et_not (et_B (ev_isS (ev_var rfl)))) fun _ => et_not (et_chain ev_i (ev_lenS (ev_var rfl) hx) o_leI (fun _ => ev_i) fun _ => o_leI)) (fun hp => ?_) (fun hp => ?_)
      · refine ws_retE ev_b ?_
        have e : isWord (.str z) = false := by
          simp only [isStrD, Bool.not_true, Bool.false_or, Bool.not_eq_true'] at hp
          simp only [isWord, hp, Bool.false_and]
        rw [e] at k
        exact k
      · simp only [isStrD, Bool.not_true, Bool.false_or, Bool.not_eq_false'] at hp
        refine ws_retE (ev_allM (ev_lcN (mk := fun k => dS (AL.S [k])) (f := fun c => .bool (decide (c ∈ LETTERS.cps.toList))) (ei_str (ev_var rfl)) (by rw [← TX.len_tl]; simp only [Bool.and_eq_true, decide_eq_true_eq] at hp; omega) (by decide) fun c _ => ev_op (ev_var rfl) ev_s o_inS)) ?_
        have e : isWord (.str z) = z.cps.toList.all fun c => decide (c ∈ LETTERS.cps.toList) := by
          simp only [isWord, hp, Bool.true_and]
        rw [← e]
        exact k
    | _ => exact ws_guard (et_or (et_not (et_B (ev_isS (ev_var rfl)))) (q := true) fun h => by cases h) (fun hp => ws_retE ev_b k) (fun hp => by cases hp)
abbrev DefD (P : Program) (w : World) (K : PySem.W.Frag) (mg : Str → Option Value) (base : Heap) (k : Nat) (x : Str) (F : DS) : Prop := DefOk P w K mg base k x [] (spD K F)
theorem rnil : ∀ c, Rvs K c ([] : List V) ([] : List AV) := fun _ => .nil
theorem ok_is_path (B : BT mg) (F : Fn K "is_path" 12 f fd) (g_DEEPEST : ∃ u, mg "DEEPEST" = some u ∧ RelV (.int 5) u) (c_is_word : DefD P w K mg base 1 "is_word" fIsWord) : FnOk P w K mg base (L2.CX P w) 2 f fd ["thing"] (spD K fIsPath) := by
  refine fn_D F sc_is_path (fun xs st Φ Ψ h => ?_) (fun cdv A outer s H E hr => ⟨_, (pss_one (ps_ret (pe_and (pe_is B (pv 0) (ty_tuple B)) (pe_and (x_le (pe_len B (pv 0)) (C8.pe_gc rfl g_DEEPEST)) (pe_one (pe_all B (pe_lc (own := [("word", 1)]) (g := gName 1) (tt := tYes) rfl sc_is_path.nd (pi_tup (pv 0)) (blkOk_by (N := ["thing", "word"]) (sc := defScope (top 12)) (by decide +kernel)) (fun _ _ _ _ _ => pg_name (i := 1) sc_is_path.nd rfl (Or.inl rfl)) (fun _ _ _ _ _ => pts_nil) (fun _ _ _ _ _ => (pe_f c_is_word hr takes0 (pa_cons (pv 1) pa_nil)))))))))), fun b xs st Φ Ψ h hW => ?_⟩)
  · obtain ⟨x, _, rfl, _⟩ := h
    rfl
  · obtain ⟨x, n, rfl, hx, k⟩ := h
    cases x with
    | tuple ds =>
      have hd : ∀ d ∈ ds, ∃ m, Fl m d := by
        cases n with
        | zero => exact False.elim hx
        | succ n => exact fun d hm => ⟨n, hx d hm⟩
      refine ws_retE (x := dB (isTupD (.tuple ds) && (decide ((ds.length : Int) ≤ 5) && ds.all isWord))) (ev_andV (ev_isT (x := .tuple ds) (ev_var rfl)) fun _ => ev_andV (ev_op (ev_lenT (ev_var rfl)) ev_i o_leI) fun hl => ev_allM (ev_lcN (mk := AV.d) (f := fun d => .bool (isWord d)) (ei_tup (ev_var rfl)) (by simp only [decide_eq_true_eq] at hl; omega) (by decide) fun d hm => ?_)) ?_
      · obtain ⟨m, hf⟩ := hd d hm
        exact ev_cal rnil (ea_cons (ev_var rfl) ea_nil) ⟨d, m, rfl, hf, rfl, rfl⟩
      · exact k
    | _ => exact ws_retE (ev_andV (ev_isT (ev_var rfl)) (q := true) fun h => by cases h) k
theorem ok_is_time (B : BT mg) (F : Fn K "is_time" 14 f fd) (c_is_whole : DefD P w K mg base 1 "is_whole" fIsWhole) : FnOk P w K mg base (L2.CX P w) 2 f fd ["thing"] (spD K fIsTime) := by
  refine fn_D F sc_is_time (fun xs st Φ Ψ h => ?_) (fun cdv A outer s H E hr => ⟨_, (pss_one (ps_ret (pe_or (x_isN (pv 0) pe_non) (pe_one (pe_f c_is_whole hr takesD (pa_cons (pv 0) pa_nil)))))), fun b xs st Φ Ψ h hW => ?_⟩)
  · obtain ⟨x, rfl, _⟩ := h
    rfl
  · obtain ⟨x, rfl, k⟩ := h
    refine ws_retE (x := dB (AL.isNone x || isWhole x)) (ev_orV (ev_op (ev_var rfl) ev_n o_isN) fun _ => ev_cal rnil (ea_cons (ev_var rfl) ea_nil) ⟨x, rfl, rfl, rfl⟩) ?_
    have : (AL.isNone x || isWhole x) = isTime x := by cases x <;> rfl
    rw [this]
    exact k
end
end K68

set_option Elab.async false
set_option linter.all false
set_option maxRecDepth 100000
set_option maxHeartbeats 4000000
namespace K68
open PySem PySem.Spec PyProof.Rows L2 AL
open TX (Fl okZ)
/-! ### entries -/
inductive Kd where | p | w | t
def Kd.ok : Kd → PyData → Bool
  | .p => isPath
  | .w => isWhole
  | .t => isTime
def forms : List (Str × List Kd) := [("make", [.p]), ("folder", [.p]), ("move", [.p, .p]), ("copy", [.p, .p]), ("drop", [.p, .w]), ("bring", [.w, .p]), ("clear", [.w]), ("number", [.w]), ("piece", [.p, .w]), ("own", [.p, .w, .w]), ("raise", [.w, .w, .t]), ("edition", [.w, .w, .t])]
def formOf (z : Str) : Option (List Kd) := (forms.find? fun q => decide (q.1 = z)).map (·.2)
def isEntry : PyData → Bool
  | .tuple (.str z :: ds) => match formOf z with
    | some ks => decide (((ds.length : Nat) : Int) = ((ks.length : Nat) : Int)) && (ks.zip ds).all fun q => q.1.ok q.2
    | none => false
  | _ => false
structure Ads where
  p : Addr
  w : Addr
  t : Addr
def Ads.of (a : Ads) : Kd → Addr
  | .p => a.p
  | .w => a.w
  | .t => a.t
/-- the written table of forms, at d -/
structure FormsOk (K : PySem.W.Frag) (w : World) (d : Addr) (a : Ads) : Prop where
  kd : ∃ es n, KDict K w d es n
  hit : ∀ z ks, formOf z = some ks → ∃ t, KDct K w d z (.ref t) ∧ (∃ u, PySem.W.nsIn K d z = some (some u)) ∧ ∀ H, SqT K H t (ks.map fun k => V.ref (a.of k))
  miss : ∀ z, formOf z = none → PySem.W.nsIn K d z = some none
  pw : a.p ≠ a.w
  pt : a.p ≠ a.t
  wt : a.w ≠ a.t
def Ads.tab (a : Ads) (f : Addr) : Option DS := if f = a.p then some fIsPath else if f = a.w then some fIsWhole else if f = a.t then some fIsTime else none
def fIsEntry : DS := fun xs st Φ _ => ∃ x n, xs = [.d x] ∧ Fl n x ∧ n ≤ 60 ∧ (∀ ds, x = .tuple ds → ds.length ≤ 100000) ∧ Φ (dB (isEntry x)) st
section
variable {P : Program} {w : World} {K : PySem.W.Frag} {mg : Str → Option Value} {base : Heap} {f d : Addr} {fd : FuncData} {a : Ads}
theorem sc_is_entry : FnScope ["thing", "word", "rest", "look", "one"] ["thing"] (defScope (top 16)) := C8.fnScope_by (by decide +kernel)
theorem tab_held (c_p : HeldD P w K mg base 2 a.p (spD K fIsPath)) (c_w : HeldD P w K mg base 2 a.w (spD K fIsWhole)) (c_t : HeldD P w K mg base 2 a.t (spD K fIsTime)) : ∀ f F, a.tab f = some F → HeldD P w K mg base 2 f (spD K F) := fun f F h => by
  unfold Ads.tab at h
  by_cases h1 : f = a.p
  · rw [if_pos h1] at h; cases h; subst h1; exact c_p
  · rw [if_neg h1] at h
    by_cases h2 : f = a.w
    · rw [if_pos h2] at h; cases h; subst h2; exact c_w
    · rw [if_neg h2] at h
      by_cases h3 : f = a.t
      · rw [if_pos h3] at h; cases h; subst h3; exact c_t
      · rw [if_neg h3] at h; cases h
theorem ev_is_len {ks : List Kd} {t : Addr} {st : Sto} (h : ∀ H, SqT K H t (ks.map fun k => V.ref (a.of k))) : Oc K (rLEN K) [.raw (.ref t)] st (dI ks.length) := by
  have := o_lenK (K := K) (st := st) h
  rw [List.length_map] at this
  exact this
theorem Fl_elem {n : Nat} {ds : List PyData} (h : Fl n (.tuple ds)) {x : PyData} (hx : x ∈ ds) : Fl (n - 1) x := by
  cases n with
  | zero => exact False.elim h
  | succ n => exact h x hx
theorem ok_is_entry (B : BT mg) (F : Fn K "is_entry" 16 f fd) (FO : FormsOk K w d a) (g_FORMS : ∃ u, mg "FORMS" = some u ∧ RelV (.ref d) u)
    (A_look : ∀ f F, a.tab f = some F → HeldD P w K mg base 2 f (spD K F)) : FnOk P w K mg base (L2.CX P w) 3 f fd ["thing"] (spD K fIsEntry) := by
  have D_FORMS := FO.kd
  refine fn_D F sc_is_entry (fun xs st Φ Ψ h => ?_) (fun cdv A outer s H E hr => ⟨_, (pss_cons (ps_if (PW.pt (pw_or (pt_not (pt_val (x_is (K := K) B (pv 0) (ty_tuple B)))) (pw_or (t_eq (K := K) hr.units (pv 0) (pe_tup pa_nil)) (pw_or (pt_not (pt_val (x_is (K := K) B (x_ix (K := K) (pv 0) pe_int) (ty_str B)))) (pw_or1 (t_niF (K := K) D_FORMS (x_ix (K := K) (pv 0) pe_int) (C8.pe_gc rfl g_FORMS))))))) (pss_one (ps_ret pe_bl)) pss_nil)
      (pss_cons (ps_asg (pv 0) (pg_star (i := 1) rfl (pgs_cons (pg_name (i := 1) sc_is_entry.nd rfl (Or.inl rfl)) (pgs_star (pg_name (i := 2) sc_is_entry.nd rfl (Or.inl rfl)) pgs_nil))))
      (pss_one (ps_ret (pe_and (x_eq (K := K) hr.units (x_len (K := K) B (pv 2)) (x_len (K := K) B (x_ixF (K := K) (C8.pe_gc rfl g_FORMS) (pv 1)))) (pe_one (x_all (K := K) B (pe_lc (own := [("look", 3), ("one", 4)]) (g := gTup K 2 (gCons (gName 3) (gCons (gName 4) gNil))) (tt := tYes) rfl sc_is_entry.nd (x_zip B (x_ixF (K := K) (C8.pe_gc rfl g_FORMS) (pv 1)) (pv 2)) (blkOk_by (N := ["thing", "word", "rest", "look", "one"]) (sc := defScope (top 16)) (by decide +kernel)) (fun _ _ _ _ _ => pg_tup rfl (pgs_cons (pg_name (i := 3) sc_is_entry.nd rfl (Or.inl rfl)) (pgs_cons (pg_name (i := 4) sc_is_entry.nd rfl (Or.inl rfl)) pgs_nil))) (fun _ _ _ _ _ => pts_nil) (fun _ _ _ _ _ => (x_callH (K := K) (i := 3) A_look hr takes0 (pa_cons (pv 4) pa_nil))))))))))), fun b xs st Φ Ψ h hW => ?_⟩)
  · obtain ⟨x, _, rfl, _⟩ := h
    rfl
  · obtain ⟨x, n, rfl, hx, hn, hlen, k⟩ := h
    cases x with
    | tuple ds =>
      cases ds with
      | nil =>
        refine ws_guard (et_or (p := !isTupD (.tuple [])) (et_not (et_B (ev_isT (x := .tuple []) (ev_var rfl)))) fun _ => et_or (p := PyData.eqv (.tuple []) (.tuple [])) (et_test (ev_op (ev_var rfl) (ev_tup (ds := []) ea_nil (by decide)) (o_eqD (TX.shaped_fl hx (by omega)) rfl))) (q := true) fun h => by cases h) (fun _ => ws_retE ev_b k) (fun hp => by cases hp)
      | cons d0 ds =>
        have h0 : atI (d0 :: ds) 0 = some d0 := by simp [atI, ixN]
        have hne : PyData.eqv (.tuple (d0 :: ds)) (.tuple []) = false := by simp only [PyData.eqv, PyData.eqvAll]
        have hl : ds.length ≤ 100000 := by have := hlen _ rfl; simp at this; omega
        have e1 : Et K (tTest (tOp (rEQ K) (tVar 0) (tTup tNil))) (startS ["thing", "word", "rest", "look", "one"] [.d (.tuple (d0 :: ds))]) st false := et_is (et_test (ev_op (ev_var rfl) (ev_tup (ds := []) ea_nil (by decide)) (o_eqD (TX.shaped_fl hx (by omega)) rfl))) hne
        have e2 : Ev K (tOp (rIx K) (tVar 0) (tC (.int 0))) (startS ["thing", "word", "rest", "look", "one"] [.d (.tuple (d0 :: ds))]) st (.d d0) := ev_op (ev_var rfl) ev_i (o_ixT h0)
        have t0 : Et K (tNot (tB (tCB (rIs K) (tCons (tVar 0) (tCons (tC (.ty "tuple")) tNil))))) (startS ["thing", "word", "rest", "look", "one"] [.d (.tuple (d0 :: ds))]) st false := et_not (et_B (ev_isT (x := .tuple (d0 :: ds)) (ev_var rfl)))
        cases d0 with
        | str z =>
          have t2 := et_not (et_B (ev_isS (x := .str z) e2))
          cases hf : formOf z with
          | none =>
            have t3 := et_test (ev_op e2 ev_raw (o_notInF (FO.miss z hf)))
            refine ws_guard (et_or t0 fun _ => et_or e1 fun _ => et_or t2 fun _ => t3) (fun _ => ws_retE ev_b ?_) (fun hp => by cases hp)
            have e : isEntry (.tuple (.str z :: ds)) = false := by simp only [isEntry, hf]
            rw [e] at k
            exact k
          | some ks =>
            obtain ⟨t, hk1, ⟨u, hk2⟩, hk3⟩ := FO.hit z ks hf
            have t3 := et_test (ev_op e2 ev_raw (o_notInF hk2))
            refine ws_guard (et_or t0 fun _ => et_or e1 fun _ => et_or t2 fun _ => t3) (fun hp => by cases hp) (fun hp => ?_)
            refine ws_sq (ws_star1 (wx_of (ev_var rfl) ⟨.str z, ds, Or.inr rfl, ?_⟩))
            have e3 : ∀ sl', sl'[1]? = some (some (dS z)) → Ev K (tOp (rIxD K w) (tC (.ref d)) (tVar 1)) sl' st (.raw (.ref t)) := fun sl' h => ev_op ev_raw (ev_var h) (o_ixF hk1)
            have hks : ks.length ≤ 3 := by
              have : ∀ q ∈ forms, q.2.length ≤ 3 := by decide
              unfold formOf at hf
              cases hq : forms.find? (fun q => decide (q.1 = z)) with
              | none => rw [hq] at hf; cases hf
              | some q => rw [hq] at hf; cases hf; exact this q (List.mem_of_find?_eq_some hq)
            refine ws_retE (x := dB (decide (((ds.length : Nat) : Int) = ((ks.length : Nat) : Int)) && (ks.zip ds).all fun q => q.1.ok q.2)) (ev_andV (ev_op (ev_lenL (xs := ds) (ev_var rfl)) (ev_cb (ea_cons (e3 _ rfl) ea_nil) (ev_is_len (hk3) )) o_eqI) fun hle => ?_) ?_
            · have hz : ((((ks.map fun k => V.ref (a.of k)).map Lf.raw).zip (ds.map Lf.d)).map fun q => AV.p [q.1, q.2]) = (ks.zip ds).map fun q => .p [.raw (.ref (a.of q.1)), .d q.2] := by
                rw [List.map_map, List.zip_map, List.map_map]
                rfl
              have hi := ei_zipS (P := P) (w := w) (K := K) (sl := (((startS ["thing", "word", "rest", "look", "one"] [.d (.tuple (.str z :: ds))]).set 1 (some (.d (.str z)))).set 2 (some (dL ds)))) (st := st) (ea_cons (e3 _ rfl) (ea_cons (ev_var (i := 2) rfl) ea_nil)) (zd_raw hk3) (zd_list (ds := ds))
              rw [hz] at hi
              refine ev_allM (ev_lcG hi (by rw [List.length_zip]; omega) fun q hq => ⟨_, [3, 4], (by decide), eg_tupP (egs_cons eg_name (egs_cons eg_name egs_nil)) rfl, ?_⟩)
              have hqd : Fl (n - 1) q.2 := Fl_elem hx (List.mem_cons_of_mem _ (List.of_mem_zip hq).2)
              obtain ⟨kd, dd⟩ := q
              cases kd with
              | p => exact ev_callH (F := fIsPath) rfl (show a.tab a.p = some fIsPath by unfold Ads.tab; rw [if_pos rfl]) (ea_cons (ev_var rfl) ea_nil) ⟨dd, n - 1, rfl, hqd, rfl, rfl⟩
              | w => exact ev_callH (F := fIsWhole) rfl (show a.tab a.w = some fIsWhole by unfold Ads.tab; rw [if_neg FO.pw.symm, if_pos rfl]) (ea_cons (ev_var rfl) ea_nil) ⟨dd, rfl, rfl, rfl⟩
              | t => exact ev_callH (F := fIsTime) rfl (show a.tab a.t = some fIsTime by unfold Ads.tab; rw [if_neg FO.pt.symm, if_neg FO.wt.symm, if_pos rfl]) (ea_cons (ev_var rfl) ea_nil) ⟨dd, rfl, rfl, rfl⟩
            · have e : isEntry (.tuple (.str z :: ds)) = (decide (((ds.length : Nat) : Int) = ((ks.length : Nat) : Int)) && (ks.zip ds).all fun q => q.1.ok q.2) := by simp only [isEntry, hf]
              rw [← e]
              exact k
        | _ =>
          have t2 := et_not (et_B (ev_isS e2))
          exact ws_guard (et_or t0 fun _ => et_or e1 fun _ => et_or (q := true) t2 fun h => by cases h) (fun _ => ws_retE ev_b k) (fun hp => by cases hp)
    | _ => exact ws_guard (et_or (et_not (et_B (ev_isT (ev_var rfl)))) (q := true) fun h => by cases h) (fun hp => ws_retE ev_b k) (fun hp => by cases hp)
end
end K68

set_option Elab.async false
set_option linter.all false
set_option maxRecDepth 100000
set_option maxHeartbeats 4000000
namespace K68
open PySem PySem.Spec PyProof.Rows L2 AL
open TX (Fl okZ cut)
/-! ### words of things -/
def strOf : PyData → Str
  | .str z => z
  | _ => Str.empty
def wordOf : PyData → Str
  | .none => AL.S [45]
  | .tuple ds => AL.S [47] ++ Txt.join (AL.S [47]) (ds.map strOf)
  | .int i => toString i
  | .str z => z
  | _ => Str.empty
/-- a thing that may be written as a word -/
def Wd : PyData → Prop
  | .none => True
  | .int i => i.natAbs.log2 < 1920
  | .str z => z.length ≤ 100000
  | .tuple ds => (∀ d ∈ ds, ∃ z, d = .str z) ∧ (ds.map fun d => (strOf d).length).sum + ds.length ≤ 100000
  | _ => False
def fWordOf : DS := fun xs st Φ _ => ∃ x, xs = [.d x] ∧ Wd x ∧ Φ (dS (wordOf x)) st
def shownE (ds : List PyData) : Str := Txt.join (AL.S [32]) (ds.map wordOf)
def fShown : DS := fun xs st Φ _ => ∃ ds, xs = [dT ds] ∧ (∀ d ∈ ds, Wd d) ∧ ds.length ≤ 10 ∧ Φ (dS (shownE ds)) st
section
variable {P : Program} {w : World} {K : PySem.W.Frag} {mg : Str → Option Value} {base : Heap} {f d : Addr} {fd : FuncData} {a : Ads}
theorem sc_word_of : FnScope ["thing"] ["thing"] (defScope (top 21)) := C8.fnScope_by (by decide +kernel)
theorem sc_shown_entry : FnScope ["entry", "thing"] ["entry"] (defScope (top 22)) := C8.fnScope_by (by decide +kernel)
theorem strs_of {ds : List PyData} (h : ∀ d ∈ ds, ∃ z, d = .str z) : ds = (ds.map strOf).map PyData.str := by
  induction ds with
  | nil => rfl
  | cons d ds ih =>
    obtain ⟨z, rfl⟩ := h d (List.mem_cons_self ..)
    rw [List.map_cons, List.map_cons, ← ih fun x hx => h x (List.mem_cons_of_mem _ hx)]
    rfl
theorem join_le (s : List Nat) (ys : List Str) : (Txt.join (AL.S s) ys).length ≤ (ys.map (·.length)).sum + ys.length * s.length := by
  have e : ys = (ys.map (·.cps.toList)).map AL.S := by
    rw [List.map_map]
    exact (List.map_id'' (fun z => (TX.S_tl z)) ys).symm
  rw [e, TX.join_S, TX.S_len, TX.lens, List.length_map]
  exact TX.joinL_len s _
theorem ok_word_of (B : BT mg) (F : Fn K "word_of" 21 f fd) (g_NONE : ∃ u, mg "NONE" = some u ∧ RelV (.str (AL.S [45])) u) : FnOk P w K mg base (L2.CX P w) 1 f fd ["thing"] (spD K fWordOf) := by
  refine fn_D F sc_word_of (fun xs st Φ Ψ h => ?_) (fun cdv A outer s H E hr => ⟨_, (pss_cons (ps_if (t_isN (pv 0) pe_non) (pss_one (ps_ret (C8.pe_gc rfl g_NONE))) pss_nil)
      (pss_one (ps_ret (pe_ifExp (pt_val (x_is (K := K) B (pv 0) (ty_tuple B))) (x_add (K := K) pe_str (x_join (K := K) pe_str (pa_cons (pv 0) pa_nil))) (x_str B (pv 0)))))), fun b xs st Φ Ψ h hW => ?_⟩)
  · obtain ⟨x, rfl, _⟩ := h
    rfl
  · obtain ⟨x, rfl, hx, k⟩ := h
    have t0 : Et K (tTest (tOp rIsN (tVar 0) (tC .non))) (startS ["thing"] [.d x]) st (AL.isNone x) := et_test (ev_op (ev_var rfl) ev_n o_isN)
    have t1 : Et K (tB (tCB (rIs K) (tCons (tVar 0) (tCons (tC (.ty "tuple")) tNil)))) (startS ["thing"] [.d x]) st (isTupD x) := et_B (ev_isT (ev_var rfl))
    cases x with
    | none => exact ws_guard t0 (fun _ => ws_retE ev_s k) (fun hp => by cases hp)
    | int i => exact ws_guard t0 (fun hp => by cases hp) (fun _ => ws_retE (ev_if t1 (fun h => by cases h) fun _ => ev_cb (ea_cons (ev_var rfl) ea_nil) (o_strsI hx)) k)
    | str z => exact ws_guard t0 (fun hp => by cases hp) (fun _ => ws_retE (ev_if t1 (fun h => by cases h) fun _ => ev_cb (ea_cons (ev_var rfl) ea_nil) o_strsS) k)
    | tuple ds =>
      obtain ⟨h1, h2⟩ := hx
      have es := strs_of h1
      have hv : Ev K (tVar 0) (startS ["thing"] [.d (.tuple ds)]) st (dT ((ds.map strOf).map PyData.str)) := by rw [← es]; exact ev_var rfl
      have hs : ((ds.map strOf).map (·.length)).sum + (ds.map strOf).length * 1 ≤ 100000 := by
        rw [List.map_map, List.length_map, Nat.mul_one]; exact h2
      have hj := join_le [47] (ds.map strOf)
      exact ws_guard t0 (fun hp => by cases hp) (fun _ => ws_retE (ev_if t1 (fun _ => ev_op ev_s (ev_bm ev_s (ea_cons hv ea_nil) (o_joinT (a := AL.S [47]) (by show _ + _ * (AL.S [47]).length ≤ _; rw [TX.S_len]; exact Nat.le_trans hs (by decide)))) (o_addS (x := AL.S [47]) (by rw [TX.S_len]; simp only [List.length_cons, List.length_nil] at hj ⊢; omega))) fun h => by cases h) k)
    | bool _ => exact hx.elim
    | list _ => exact hx.elim
    | dict _ => exact hx.elim
theorem wd_len {x : PyData} (h : Wd x) : (wordOf x).length ≤ 200000 := by
  cases x with
  | none => exact (by decide : (AL.S [45]).length ≤ 200000)
  | int i =>
    have e := PySem.int_text_length_le (k := 1920) (by decide) h
    show (Str.ofString (toString i)).length ≤ 200000
    rw [PySem.ofString_length]
    exact Nat.le_trans e (by decide)
  | str z => exact Nat.le_trans h (by decide)
  | tuple ds =>
    obtain ⟨_, h2⟩ := h
    have hj := join_le [47] (ds.map strOf)
    have e : (wordOf (.tuple ds)).length = 1 + (Txt.join (AL.S [47]) (ds.map strOf)).length := by
      show (AL.S [47] ++ _).length = _
      rw [PySem.strLen_append, TX.S_len]
      rfl
    rw [e]
    rw [List.map_map, List.length_map] at hj
    simp only [List.length_cons, List.length_nil] at hj
    have : ((fun x : Str => x.length) ∘ strOf) = fun d => (strOf d).length := rfl
    rw [this] at hj
    omega
  | bool _ => exact h.elim
  | list _ => exact h.elim
  | dict _ => exact h.elim
theorem ok_shown_entry (B : BT mg) (F : Fn K "shown_entry" 22 f fd) (c_word_of : DefD P w K mg base 1 "word_of" fWordOf) : FnOk P w K mg base (L2.CX P w) 2 f fd ["entry"] (spD K fShown) := by
  refine fn_D F sc_shown_entry (fun xs st Φ Ψ h => ?_) (fun cdv A outer s H E hr => ⟨_, (pss_one (ps_ret (x_join (K := K) pe_str (pa_cons (pe_lc (own := [("thing", 1)]) (g := gName 1) (tt := tYes) rfl sc_shown_entry.nd (pi_tup (pv 0)) (blkOk_by (N := ["entry", "thing"]) (sc := defScope (top 22)) (by decide +kernel)) (fun _ _ _ _ _ => pg_name (i := 1) sc_shown_entry.nd rfl (Or.inl rfl)) (fun _ _ _ _ _ => pts_nil) (fun _ _ _ _ _ => (pe_f c_word_of hr takes0 (pa_cons (pv 1) pa_nil)))) pa_nil)))), fun b xs st Φ Ψ h hW => ?_⟩)
  · obtain ⟨x, rfl, _⟩ := h
    rfl
  · obtain ⟨ds, rfl, hx, hl, k⟩ := h
    have el := ev_lcN (K := K) (te := tCalW (spD K fWordOf) [] (fun _ _ _ _ => False) (tCons (tVar 1) tNil)) (sl := startS ["entry", "thing"] [dT ds]) (st := st) (j := 1) (vs := [1]) (mk := AV.d) (f := fun d => .str (wordOf d)) (ei_tup (ds := ds) (ev_var (i := 0) rfl)) (by omega) (by decide) fun d hd => ev_cal rnil (ea_cons (ev_var rfl) ea_nil) ⟨d, rfl, hx d hd, rfl, rfl⟩
    have e2 : (ds.map fun d => PyData.str (wordOf d)) = (ds.map wordOf).map PyData.str := by rw [List.map_map]; rfl
    rw [e2] at el
    have hb : ((ds.map wordOf).map (·.length)).sum ≤ 10 * 200000 := by
      have g : ∀ l : List PyData, (∀ d ∈ l, Wd d) → ((l.map wordOf).map (·.length)).sum ≤ l.length * 200000 := by
        intro l
        induction l with
        | nil => intro _; simp
        | cons d l ih =>
          intro h
          have h1 := wd_len (h d (List.mem_cons_self ..))
          have h2 := ih fun x hx => h x (List.mem_cons_of_mem _ hx)
          simp only [List.map_cons, List.sum_cons, List.length_cons] at h2 ⊢
          omega
      exact Nat.le_trans (g ds hx) (Nat.mul_le_mul_right _ hl)
    have hb2 : ((ds.map wordOf).map (·.length)).sum + ds.length * 1 ≤ 10000000 := by
      rw [Nat.mul_one]
      exact Nat.le_trans (Nat.add_le_add hb hl) (by decide)
    exact ws_retE (ev_bm ev_s (ea_cons el ea_nil) (o_joinL (a := AL.S [32]) (by rw [TX.S_len, List.length_map]; exact hb2))) k
end
end K68

set_option Elab.async false
set_option linter.all false
set_option maxRecDepth 100000
set_option maxHeartbeats 4000000
namespace K68
open PySem PySem.Spec PyProof.Rows L2 AL
open TX (Fl okZ cut)
/-! ### reading a word -/
def FIGS : Str := "0123456789"
def isFig (c : Nat) : Bool := decide (c ∈ FIGS.cps.toList)
def figsOf (l : List Nat) : List Nat := if l.head? = some 45 then l.drop 1 else l
def figsOk (l : List Nat) : Bool := !(decide (figsOf l = []) || (decide (30 < (figsOf l).length) || !(figsOf l).all isFig))
def numOf (l : List Nat) : Int := if l.head? = some 45 then -((NumText.digitsVal (l.drop 1) : Nat) : Int) else ((NumText.digitsVal l : Nat) : Int)
def thingL (l : List Nat) : PyData :=
  if l = [45] then .none
  else if l.head? = some 47 then (if l = [47] then .tuple [] else .tuple ((cut 47 (l.drop 1)).map fun p => .str (AL.S p)))
  else if figsOk l = true then .int (numOf l) else .str (AL.S l)
def okL (l : List Nat) : Prop := l.length ≤ 20000 ∧ ∀ c ∈ l, c < 1114112
def fThingIn : DS := fun xs st Φ _ => ∃ l, xs = [dS (AL.S l)] ∧ okL l ∧ Φ (.d (thingL l)) st
theorem isFig_iff (c : Nat) : isFig c = true ↔ 48 ≤ c ∧ c ≤ 57 := by
  have e : FIGS.cps.toList = [48, 49, 50, 51, 52, 53, 54, 55, 56, 57] := by decide
  unfold isFig
  rw [e]
  simp only [decide_eq_true_eq, List.mem_cons, List.not_mem_nil, or_false]
  omega
theorem figs_all {l : List Nat} (h : l.all isFig = true) : NumText.AllDigits l := fun c hc => (isFig_iff c).mp (List.all_eq_true.mp h c hc)
theorem num_text {l : List Nat} (h : figsOk l = true) : intText? (AL.S l) = some (numOf l) ∧ l.length ≤ 31 := by
  unfold figsOk at h
  simp only [Bool.not_eq_true', Bool.or_eq_false_iff, decide_eq_false_iff_not, Bool.not_eq_false'] at h
  obtain ⟨h1, h2, h3⟩ := h
  unfold figsOf at h1 h2 h3
  unfold numOf
  by_cases hh : l.head? = some 45
  · rw [if_pos hh] at h1 h2 h3 ⊢
    cases l with
    | nil => cases hh
    | cons c r =>
      have hc : c = 45 := by simpa using hh
      subst hc
      simp only [List.drop_succ_cons, List.drop_zero] at h1 h2 h3 ⊢
      exact ⟨PySem.intText_neg (x := AL.S (45 :: r)) (cs := r) rfl (figs_all h3) h1 (by rw [TX.S_len]; simp; omega), by simp; omega⟩
  · rw [if_neg hh] at h1 h2 h3 ⊢
    exact ⟨PySem.intText_digits (x := AL.S l) (figs_all h3) h1 (by rw [TX.S_len]; omega), by omega⟩
section
variable {P : Program} {w : World} {K : PySem.W.Frag} {mg : Str → Option Value} {base : Heap} {f d : Addr} {fd : FuncData} {a : Ads}
theorem sc_thing_in : FnScope ["word", "figures", "sign"] ["word"] (defScope (top 23)) := C8.fnScope_by (by decide +kernel)
theorem S_inj {a b : List Nat} : AL.S a = AL.S b ↔ a = b := ⟨SX.S_inj, fun h => by rw [h]⟩
theorem ev_sl1 {sl : Sl} {st : Sto} {te : TE} {l : List Nat} (h : Ev K te sl st (dS (AL.S l))) (hl : l.length ≤ 20000) : Ev K (tSl (rSL K) te (tPart (tC (.int 1))) tNoPart) sl st (dS (AL.S (l.drop 1))) := by
  have := ev_sl (r := rSL K) h (eo_some ev_i) eo_none (o_slS (lo := some 1) (hi := none) (by rw [TX.S_len]; omega))
  rw [SX.slice_from (by decide)] at this
  exact this
theorem ok_thing_in (B : BT mg) (F : Fn K "thing_in" 23 f fd) (g_NONE : ∃ u, mg "NONE" = some u ∧ RelV (.str (AL.S [45])) u) (g_FIGURES : ∃ u, mg "FIGURES" = some u ∧ RelV (.str FIGS) u) (g_MOST_FIGURES : ∃ u, mg "MOST_FIGURES" = some u ∧ RelV (.int 30) u) : FnOk P w K mg base (L2.CX P w) 1 f fd ["word"] (spD K fThingIn) := by
  refine fn_D F sc_thing_in (fun xs st Φ Ψ h => ?_) (fun cdv A outer s H E hr => ⟨_, (pss_cons (ps_if (t_eq (K := K) hr.units (pv 0) (C8.pe_gc rfl g_NONE)) (pss_one (ps_ret pe_non)) pss_nil)
      (pss_cons (ps_if (pt_val (x_starts (K := K) (pv 0) (pa_cons pe_str pa_nil))) (pss_one (ps_ret (pe_ifExp (t_ne (K := K) hr.units (pv 0) pe_str) (x_tuple (K := K) B (x_split (K := K) (x_sl (K := K) (pv 0) (po_some pe_int) po_none) (pa_cons pe_str pa_nil))) (pe_tup pa_nil)))) pss_nil)
      (pss_cons (ps_set (i := 1) sc_thing_in.nd rfl (Or.inl rfl) (pe_ifExp (pt_val (x_starts (K := K) (pv 0) (pa_cons pe_str pa_nil))) (x_sl (K := K) (pv 0) (po_some pe_int) po_none) (pv 0)))
      (pss_cons (ps_if (PW.pt (pw_or (t_eq (K := K) hr.units (pv 1) pe_str) (pw_or (t_gt (x_len (K := K) B (pv 1)) (C8.pe_gc rfl g_MOST_FIGURES)) (pw_or1 (pt_not (pt_val (x_all (K := K) B (pe_lc (own := [("sign", 2)]) (g := gName 2) (tt := tYes) rfl sc_thing_in.nd (pi_str (pv 1)) (blkOk_by (N := ["word", "figures", "sign"]) (sc := defScope (top 23)) (by decide +kernel)) (fun _ _ _ _ _ => pg_name (i := 2) sc_thing_in.nd rfl (Or.inl rfl)) (fun _ _ _ _ _ => pts_nil) (fun _ _ _ _ _ => (x_inS (pv 2) (C8.pe_gc rfl g_FIGURES))))))))))) (pss_one (ps_ret (pv 0))) pss_nil)
      (pss_one (ps_ret (x_int B (pv 0)))))))), fun b xs st Φ Ψ h hW => ?_⟩)
  · obtain ⟨x, rfl, _⟩ := h
    rfl
  · obtain ⟨l, rfl, ⟨hl, hc⟩, k⟩ := h
    have v0 : Ev K (tVar 0) (startS ["word", "figures", "sign"] [dS (AL.S l)]) st (dS (AL.S l)) := ev_var rfl
    refine ws_guard (et_test (ev_op v0 ev_s (o_eqS (y := AL.S [45])))) (fun hp => ws_retE ev_n ?_) (fun hp => ?_)
    · have e : l = [45] := S_inj.mp (of_decide_eq_true hp)
      subst e
      exact k
    have h1 : ¬ l = [45] := fun e => of_decide_eq_false hp (by rw [e])
    have ts : ∀ (c : Nat) (z : Str) (hz : z = AL.S [c]), Ev K (tBM K "str" rSTARTS (tVar 0) (tCons (tC (.str z)) tNil)) (startS ["word", "figures", "sign"] [dS (AL.S l)]) st (dB (l.head? == some c)) := fun c z hz => by
      subst hz
      have := ev_bm v0 (ea_cons (ev_s (z := AL.S [c])) ea_nil) (o_starts (K := K) (st := st) (a := AL.S l) (b := AL.S [c]))
      rw [TX.starts_S] at this
      exact this
    refine ws_guard (et_B (ts 47 "/" rfl)) (fun hp => ?_) (fun hp => ?_)
    · have h2 : l.head? = some 47 := by simpa using hp
      by_cases h3 : l = [47]
      · subst h3
        refine ws_retE (x := dT []) (ev_if (et_test (ev_op v0 ev_s (o_neS (y := AL.S [47])))) (fun h => by simp at h) fun _ => ev_tup (ds := []) ea_nil (by decide)) ?_
        exact k
      · refine ws_retE (x := dT ((cut 47 (l.drop 1)).map fun p => .str (AL.S p))) (ev_if (et_test (ev_op v0 ev_s (o_neS (y := AL.S [47])))) (fun _ => ?_) fun h => ?_) ?_
        · have e1 := ev_bm (ev_sl1 v0 hl) (ea_cons (ev_s (z := AL.S [47])) ea_nil) (o_split (K := K) (st := st) (a := AL.S (l.drop 1)) (b := AL.S [47]) rfl (by rw [TX.S_len, List.length_drop]; omega))
          rw [TX.split_cut (by decide), List.map_map] at e1
          exact ev_cb (ea_cons e1 ea_nil) o_tupL
        · simp only [Bool.not_eq_false', decide_eq_true_eq] at h
          exact absurd (S_inj.mp h) h3
        · have e : thingL l = .tuple ((cut 47 (l.drop 1)).map fun p => .str (AL.S p)) := by
            unfold thingL
            rw [if_neg h1, if_pos h2, if_neg h3]
          rw [e] at k
          exact k
    have h2 : ¬ l.head? = some 47 := by simpa using hp
    have ef : Ev K (tIf (tB (tBM K "str" rSTARTS (tVar 0) (tCons (tC (.str "-")) tNil))) (tSl (rSL K) (tVar 0) (tPart (tC (.int 1))) tNoPart) (tVar 0)) (startS ["word", "figures", "sign"] [dS (AL.S l)]) st (dS (AL.S (figsOf l))) := ev_if (et_B (ts 45 "-" rfl)) (fun h => by
      have h : l.head? = some 45 := by simpa using h
      have e : figsOf l = l.drop 1 := by unfold figsOf; rw [if_pos h]
      rw [e]
      exact ev_sl1 v0 hl) fun h => by
      have h : ¬ l.head? = some 45 := by simpa using h
      have e : figsOf l = l := by unfold figsOf; rw [if_neg h]
      rw [e]
      exact v0
    refine ws_asgS ef ?_
    have hfl : (figsOf l).length ≤ 20000 := by
      unfold figsOf
      split
      · rw [List.length_drop]; omega
      · exact hl
    have v1 : Ev K (tVar 1) ((startS ["word", "figures", "sign"] [dS (AL.S l)]).set 1 (some (dS (AL.S (figsOf l))))) st (dS (AL.S (figsOf l))) := ev_var rfl
    refine ws_guard (p := !figsOk l) (et_is (et_or (et_test (ev_op v1 ev_s (o_eqS (y := AL.S [])))) fun _ => et_or (et_test (ev_op (ev_lenS v1 (by rw [TX.S_len]; omega)) ev_i (o_Ib (f := fun i j => decide (j < i))))) fun _ => et_not (et_B (ev_allM (ev_lcN (mk := fun c => dS (AL.S [c])) (f := fun c => .bool (isFig c)) (ei_str v1) (by show (figsOf l).length ≤ _; omega) (by decide) fun c _ => ev_op (ev_var rfl) ev_s o_inS)))) ?_) (fun hp => ws_retE (ev_var rfl) ?_) (fun hp => ws_retE (ev_cb (ea_cons (ev_var rfl) ea_nil) (o_intS (num_text ?_).1 ?_)) ?_)
    · unfold figsOk
      rw [Bool.not_not]
      congr 1
      · exact decide_eq_decide.mpr S_inj
      · congr 1
        exact decide_eq_decide.mpr (by rw [TX.S_len]; omega)
    · have e : thingL l = .str (AL.S l) := by
        unfold thingL
        rw [if_neg h1, if_neg h2, if_neg (by simpa using hp)]
      rw [e] at k
      exact k
    · simpa using hp
    · rw [TX.S_len]
      have := (num_text (l := l) (by simpa using hp)).2
      omega
    · have e : thingL l = .int (numOf l) := by
        unfold thingL
        rw [if_neg h1, if_neg h2, if_pos (by simpa using hp)]
      rw [e] at k
      exact k
end
end K68

set_option Elab.async false
set_option linter.all false
set_option maxRecDepth 100000
set_option maxHeartbeats 4000000
namespace K68
open PySem PySem.Spec PyProof.Rows L2 AL
open TX (Fl okZ cut)
/-! ### reading a row -/
theorem digits_lt : ∀ (cs : List Nat) (acc : Nat), (∀ c ∈ cs, c ≤ 57) → cs.foldl (fun acc c => acc * 10 + (c - 48)) acc < (acc + 1) * 10 ^ cs.length
  | [], acc, _ => by simp
  | c :: cs, acc, h => by
    have h1 := h c (List.mem_cons_self ..)
    have ih := digits_lt cs (acc * 10 + (c - 48)) fun x hx => h x (List.mem_cons_of_mem _ hx)
    rw [List.foldl_cons, List.length_cons, Nat.pow_succ]
    refine Nat.lt_of_lt_of_le ih ?_
    have : acc * 10 + (c - 48) + 1 ≤ (acc + 1) * 10 := by omega
    calc (acc * 10 + (c - 48) + 1) * 10 ^ cs.length ≤ ((acc + 1) * 10) * 10 ^ cs.length := Nat.mul_le_mul_right _ this
      _ = (acc + 1) * (10 ^ cs.length * 10) := by rw [Nat.mul_assoc, Nat.mul_comm 10]
theorem val_lt {cs : List Nat} (h : NumText.AllDigits cs) (hl : cs.length ≤ 30) : NumText.digitsVal cs < 10 ^ 30 := by
  have := digits_lt cs 0 fun c hc => (h c hc).2
  rw [Nat.zero_add, Nat.one_mul] at this
  exact Nat.lt_of_lt_of_le this (Nat.pow_le_pow_right (by decide) hl)
theorem num_lt {l : List Nat} (h : figsOk l = true) : (numOf l).natAbs < 10 ^ 30 := by
  unfold figsOk at h
  simp only [Bool.not_eq_true', Bool.or_eq_false_iff, decide_eq_false_iff_not, Bool.not_eq_false'] at h
  obtain ⟨h1, h2, h3⟩ := h
  unfold figsOf at h1 h2 h3
  unfold numOf
  by_cases hh : l.head? = some 45
  · rw [if_pos hh] at h1 h2 h3 ⊢
    have := val_lt (figs_all h3) (by omega)
    omega
  · rw [if_neg hh] at h1 h2 h3 ⊢
    have := val_lt (figs_all h3) (by omega)
    omega
theorem log_of {i : Int} (h : i.natAbs < 10 ^ 30) : i.natAbs.log2 < 1920 := by
  by_cases h0 : i.natAbs = 0
  · rw [h0]; decide
  · rw [Nat.log2_lt h0]
    exact Nat.lt_trans h (Nat.lt_of_lt_of_le (by decide : 10 ^ 30 < 2 ^ 100) (Nat.pow_le_pow_right (by decide) (by decide)))
theorem ok_cut {c : Nat} {l p : List Nat} (h : okL l) (hp : p ∈ cut c l) : okL p := ⟨Nat.le_trans (TX.cut_le hp) h.1, fun x hx => h.2 x (TX.cut_mem c l p hp x hx)⟩
theorem ok_drop {l : List Nat} (n : Nat) (h : okL l) : okL (l.drop n) := ⟨by rw [List.length_drop]; have := h.1; omega, fun x hx => h.2 x (List.mem_of_mem_drop hx)⟩
theorem okZ_of {l : List Nat} (h : okL l) : okZ (AL.S l) := ⟨by rw [TX.S_len]; have := h.1; omega, h.2⟩
theorem wd_thing {l : List Nat} (h : okL l) : Wd (thingL l) := by
  unfold thingL
  split
  · trivial
  · split
    · split
      · exact ⟨(fun d hd => by cases hd), by decide⟩
      · refine ⟨fun d hd => ?_, ?_⟩
        · obtain ⟨p, _, rfl⟩ := List.mem_map.mp hd
          exact ⟨_, rfl⟩
        · have h1 := TX.cut_sum 47 (l.drop 1)
          have h2 := (ok_drop 1 h).1
          rw [List.map_map, List.length_map]
          have e : ((fun d => (strOf d).length) ∘ fun p => PyData.str (AL.S p)) = fun p : List Nat => p.length := by
            funext p
            exact TX.S_len p
          rw [e]
          have e2 : (cut 47 (l.drop 1)).map (fun p : List Nat => p.length) = (cut 47 (l.drop 1)).map List.length := rfl
          rw [e2]
          omega
    · split
      · rename_i hf
        exact log_of (num_lt hf)
      · show (AL.S l).length ≤ 100000
        rw [TX.S_len]; have := h.1; omega
theorem fl_thing {l : List Nat} (h : okL l) : Fl 1 (thingL l) := by
  unfold thingL
  split
  · trivial
  · split
    · split
      · exact fun d hd => by cases hd
      · intro d hd
        obtain ⟨p, hp, rfl⟩ := List.mem_map.mp hd
        exact okZ_of (ok_cut (ok_drop 1 h) hp)
    · split
      · trivial
      · exact okZ_of h
def foundL (l : List Nat) : List PyData := match cut 32 l with
  | w0 :: ws => .str (AL.S w0) :: ws.map thingL
  | [] => []
def goodL (l : List Nat) : Bool := isEntry (.tuple (foundL l)) && decide (shownE (foundL l) = AL.S l)
def entryL (l : List Nat) : PyData := if goodL l = true then .tuple (foundL l) else .none
def fEntryIn : DS := fun xs st Φ _ => ∃ l, xs = [dS (AL.S l)] ∧ okL l ∧ Φ (.d (entryL l)) st
theorem found_len (l : List Nat) : (foundL l).length ≤ l.length + 1 := by
  have h := TX.cut_len 32 l
  unfold foundL
  cases e : cut 32 l with
  | nil => simp
  | cons a b => rw [e] at h; simpa using h
theorem found_wd {l : List Nat} (h : okL l) : ∀ d ∈ foundL l, Wd d := by
  unfold foundL
  cases e : cut 32 l with
  | nil => intro d hd; cases hd
  | cons a b =>
    intro d hd
    have hm : ∀ p ∈ a :: b, okL p := fun p hp => ok_cut h (by rw [e]; exact hp)
    rcases List.mem_cons.mp hd with rfl | hd
    · show (AL.S a).length ≤ 100000
      rw [TX.S_len]; have := (hm a (List.mem_cons_self ..)).1; omega
    · obtain ⟨p, hp, rfl⟩ := List.mem_map.mp hd
      exact wd_thing (hm p (List.mem_cons_of_mem _ hp))
theorem fl_mono : ∀ (n : Nat) (d : PyData), Fl n d → Fl (n + 1) d
  | _, .none, _ => trivial
  | _, .bool _, _ => trivial
  | _, .int _, _ => trivial
  | n, .str z, h => by cases n <;> exact h
  | 0, .list _, h => False.elim h
  | 0, .tuple _, h => False.elim h
  | n + 1, .list ds, h => fun d hd => fl_mono n d (h d hd)
  | n + 1, .tuple ds, h => fun d hd => fl_mono n d (h d hd)
  | 0, .dict _, h => False.elim h
  | n + 1, .dict _, h => False.elim h
theorem found_fl {l : List Nat} (h : okL l) : Fl 2 (.tuple (foundL l)) := by
  show ∀ d ∈ foundL l, Fl 1 d
  unfold foundL
  cases e : cut 32 l with
  | nil => intro d hd; cases hd
  | cons a b =>
    intro d hd
    have hm : ∀ p ∈ a :: b, okL p := fun p hp => ok_cut h (by rw [e]; exact hp)
    rcases List.mem_cons.mp hd with rfl | hd
    · exact okZ_of (hm a (List.mem_cons_self ..))
    · obtain ⟨p, hp, rfl⟩ := List.mem_map.mp hd
      exact fl_thing (hm p (List.mem_cons_of_mem _ hp))
theorem form_len {z : Str} {ks : List Kd} (hf : formOf z = some ks) : ks.length ≤ 3 := by
  have : ∀ q ∈ forms, q.2.length ≤ 3 := by decide
  unfold formOf at hf
  cases hq : forms.find? (fun q => decide (q.1 = z)) with
  | none => rw [hq] at hf; cases hf
  | some q => rw [hq] at hf; cases hf; exact this q (List.mem_of_find?_eq_some hq)
theorem entry_len {ds : List PyData} (h : isEntry (.tuple ds) = true) : ds.length ≤ 4 := by
  cases ds with
  | nil => simp
  | cons d ds =>
    cases d with
    | str z =>
      cases hf : formOf z with
      | none => simp only [isEntry, hf] at h; cases h
      | some ks =>
        simp only [isEntry, hf, Bool.and_eq_true, decide_eq_true_eq] at h
        have := form_len hf
        simp only [List.length_cons]
        omega
    | _ => simp only [isEntry] at h; cases h
section
variable {P : Program} {w : World} {K : PySem.W.Frag} {mg : Str → Option Value} {base : Heap} {f d : Addr} {fd : FuncData} {a : Ads}
theorem sc_entry_in : FnScope ["row", "first", "words", "found", "word"] ["row"] (defScope (top 24)) := C8.fnScope_by (by decide +kernel)
theorem ok_entry_in (B : BT mg) (F : Fn K "entry_in" 24 f fd) (c_thing_in : DefD P w K mg base 1 "thing_in" fThingIn) (c_is_entry : DefD P w K mg base 3 "is_entry" fIsEntry) (c_shown_entry : DefD P w K mg base 2 "shown_entry" fShown) : FnOk P w K mg base (L2.CX P w) 4 f fd ["row"] (spD K fEntryIn) := by
  refine fn_D F sc_entry_in (fun xs st Φ Ψ h => ?_) (fun cdv A outer s H E hr => ⟨_, (pss_cons (ps_asg (x_split (K := K) (pv 0) (pa_cons pe_str pa_nil)) (pg_star (i := 1) rfl (pgs_cons (pg_name (i := 1) sc_entry_in.nd rfl (Or.inl rfl)) (pgs_star (pg_name (i := 2) sc_entry_in.nd rfl (Or.inl rfl)) pgs_nil))))
      (pss_cons (ps_set (i := 3) sc_entry_in.nd rfl (Or.inl rfl) (x_add (K := K) (pe_tup (pa_cons (pv 1) pa_nil)) (x_tuple (K := K) B (pe_lc (own := [("word", 4)]) (g := gName 4) (tt := tYes) rfl sc_entry_in.nd (pi_list (pv 2)) (blkOk_by (N := ["row", "first", "words", "found", "word"]) (sc := defScope (top 24)) (by decide +kernel)) (fun _ _ _ _ _ => pg_name (i := 4) sc_entry_in.nd rfl (Or.inl rfl)) (fun _ _ _ _ _ => pts_nil) (fun _ _ _ _ _ => (pe_f c_thing_in hr takes0 (pa_cons (pv 4) pa_nil)))))))
      (pss_one (ps_ret (pe_ifExp (PW.pt (pw_and (pt_val (pe_f c_is_entry hr takesD (pa_cons (pv 3) pa_nil))) (pw_and1 (t_eq (K := K) hr.units (pe_f c_shown_entry hr takesD (pa_cons (pv 3) pa_nil)) (pv 0))))) (pv 3) pe_non))))), fun b xs st Φ Ψ h hW => ?_⟩)
  · obtain ⟨x, rfl, _⟩ := h
    rfl
  · obtain ⟨l, rfl, hl, k⟩ := h
    have e0 : Ev K (tBM K "str" rSPLIT (tVar 0) (tCons (tC (.str " ")) tNil)) (startS ["row", "first", "words", "found", "word"] [dS (AL.S l)]) st (dL ((cut 32 l).map fun p => .str (AL.S p))) := by
      have := ev_bm (ev_var (sl := startS ["row", "first", "words", "found", "word"] [dS (AL.S l)]) (i := 0) rfl) (ea_cons (ev_s (z := AL.S [32])) ea_nil) (o_split (K := K) (st := st) (a := AL.S l) (b := AL.S [32]) rfl (by rw [TX.S_len]; have := hl.1; omega))
      rw [TX.split_cut (by decide), List.map_map] at this
      exact this
    cases hc : cut 32 l with
    | nil => exact absurd hc (TX.cut_ne _ _)
    | cons w0 ws =>
      rw [hc] at e0
      have hm : ∀ p ∈ w0 :: ws, okL p := fun p hp => ok_cut hl (by rw [hc]; exact hp)
      have hf : foundL l = .str (AL.S w0) :: ws.map thingL := by unfold foundL; rw [hc]
      have hwl : ws.length ≤ 20000 := by have := TX.cut_len 32 l; rw [hc] at this; simp at this; have := hl.1; omega
      refine ws_sq (ws_star1 (wx_of e0 ⟨.str (AL.S w0), ws.map fun p => .str (AL.S p), Or.inl rfl, ?_⟩))
      have el := ev_lcN (K := K) (te := tCalW (spD K fThingIn) [] (fun _ _ _ _ => False) (tCons (tVar 4) tNil)) (sl := ((startS ["row", "first", "words", "found", "word"] [dS (AL.S l)]).set 1 (some (.d (.str (AL.S w0))))).set 2 (some (dL (ws.map fun p => .str (AL.S p))))) (st := st) (j := 4) (vs := [4]) (xs := ws) (mk := fun p => dS (AL.S p)) (f := thingL)
        (by have := ei_list (K := K) (st := st) (sl := ((startS ["row", "first", "words", "found", "word"] [dS (AL.S l)]).set 1 (some (.d (.str (AL.S w0))))).set 2 (some (dL (ws.map fun p => .str (AL.S p))))) (ev_var (i := 2) rfl); rw [List.map_map] at this; exact this) (by omega) (by decide)
        fun p hp => ev_cal rnil (ea_cons (ev_var rfl) ea_nil) ⟨p, rfl, hm p (List.mem_cons_of_mem _ hp), rfl, rfl⟩
      refine ws_asgS (x := dT (foundL l)) ?_ ?_
      · rw [hf]
        exact ev_op (ev_tup (ds := [.str (AL.S w0)]) (ea_cons (ev_var rfl) ea_nil) (by show 1 ≤ 100000; decide)) (ev_cb (ea_cons el ea_nil) o_tupL) (o_addT (by simp; omega))
      · have v3 : Ev K (tVar 3) ((((startS ["row", "first", "words", "found", "word"] [dS (AL.S l)]).set 1 (some (.d (.str (AL.S w0))))).set 2 (some (dL (ws.map fun p => .str (AL.S p))))).set 3 (some (dT (foundL l)))) st (dT (foundL l)) := ev_var rfl
        refine ws_retE (x := .d (entryL l)) (ev_if (p := goodL l) (et_and (et_B (ev_cal rnil (ea_cons v3 ea_nil) ⟨_, 2, rfl, found_fl hl, by decide, fun ds h => by cases h; have := found_len l; have := hl.1; omega, rfl, rfl⟩)) fun hg => et_test (ev_op (ev_cal rnil (ea_cons v3 ea_nil) ⟨_, rfl, found_wd hl, by have := entry_len hg; omega, rfl, rfl⟩) (ev_var rfl) o_eqS)) (fun hg => ?_) fun hg => ?_) k
        · have e : entryL l = .tuple (foundL l) := by unfold entryL; rw [if_pos hg]
          rw [e]
          exact v3
        · have e : entryL l = .none := by unfold entryL; rw [if_neg (by rw [hg]; decide)]
          rw [e]
          exact ev_n
end
end K68

set_option Elab.async false
set_option linter.all false
set_option maxRecDepth 100000
set_option maxHeartbeats 4000000
namespace K68
open PySem PySem.Spec PyProof.Rows L2 AL
open TX (Fl okZ cut)
/-! ### reading rows -/
def badAt : List (List Nat) → Option Nat
  | [] => none
  | l :: r => if goodL l = true then (badAt r).map (· + 1) else some 0
theorem bad_none : ∀ {ls : List (List Nat)}, badAt ls = none → ∀ l ∈ ls, goodL l = true
  | [], _, l, h => by cases h
  | x :: r, e, l, h => by
    unfold badAt at e
    by_cases hx : goodL x = true
    · rw [if_pos hx] at e
      have e2 : badAt r = none := by cases hb : badAt r with
        | none => rfl
        | some i => rw [hb] at e; cases e
      rcases List.mem_cons.mp h with rfl | h
      · exact hx
      · exact bad_none e2 l h
    · rw [if_neg hx] at e; cases e
theorem bad_at : ∀ {ls : List (List Nat)} {i : Nat} {l : List Nat}, ls[i]? = some l → goodL l = false → (∀ j x, j < i → ls[j]? = some x → goodL x = true) → badAt ls = some i
  | x :: r, 0, l, e, h, _ => by
    cases e
    unfold badAt
    rw [if_neg (by rw [h]; decide)]
  | x :: r, i + 1, l, e, h, g => by
    have hx : goodL x = true := g 0 x (by omega) rfl
    have := bad_at (ls := r) (i := i) e h fun j y hj hy => g (j + 1) y (by omega) hy
    unfold badAt
    rw [if_pos hx, this]
    rfl
theorem bad_all : ∀ {ls : List (List Nat)}, (∀ (j : Nat) x, ls[j]? = some x → goodL x = true) → badAt ls = none
  | [], _ => rfl
  | x :: r, g => by
    unfold badAt
    rw [if_pos (g 0 x rfl), bad_all fun j y hy => g (j + 1) y hy]
    rfl
def rowsD (ls : List (List Nat)) : List PyData := ls.map fun l => .str (AL.S l)
def entsD (ls : List (List Nat)) : List PyData := ls.map fun l => .tuple (foundL l)
def nt (C : Addr) (i : Nat) : AE := ⟨.ref C, some [("row", dI i)]⟩
def okR (ls : List (List Nat)) : Prop := ls.length ≤ 20001 ∧ ∀ l ∈ ls, okL l
def fEntriesIn0 (C : Addr) : DS := fun xs st Φ Ψ => ∃ ls, xs = [dL (rowsD ls)] ∧ okR ls ∧ match badAt ls with
  | none => ∀ ex, Φ (dL (entsD ls)) (st ++ ex)
  | some i => ∀ ex, Ψ (nt C i) (st ++ ex)
def fEntriesIn (C : Addr) : DS := fun xs st Φ Ψ => ∃ ls, xs = [dL (rowsD ls)] ∧ okR ls ∧ match badAt ls with
  | none => Φ (dL (entsD ls)) st
  | some i => Ψ (nt C i) st
theorem nt_data (C : Addr) (i : Nat) : DataE (nt C i) := fun p hp => by
  rw [List.mem_singleton.mp hp]
  exact ⟨_, rfl⟩
section
variable {P : Program} {w : World} {K : PySem.W.Frag} {mg : Str → Option Value} {base : Heap} {f d C : Addr} {fd : FuncData} {a : Ads}
theorem sc_entries_in : FnScope ["rows", "found", "number", "row", "entry"] ["rows"] (defScope (top 25)) := C8.fnScope_by (by decide +kernel)
theorem sc_read_cut : FnScope ["text", "rows"] ["text"] (defScope (top 26)) := C8.fnScope_by (by decide +kernel)
theorem sc_read : FnScope ["text", "found", "rest"] ["text"] (defScope (top 27)) := C8.fnScope_by (by decide +kernel)
theorem ok_entries_in0 (B : BT mg) (F : Fn K "entries_in" 25 f fd) (c_entry_in : DefD P w K mg base 4 "entry_in" fEntryIn) (T_NoText : ExcD P w K mg base "NoText" C "row") : FnOk P w K mg base (L2.CX P w) 5 f fd ["rows"] (spD K (fEntriesIn0 C)) := by
  refine fn_D F sc_entries_in (fun xs st Φ Ψ h => ?_) (fun cdv A outer s H E hr => ⟨_, (pss_cons (ps_set (i := 1) sc_entries_in.nd rfl (Or.inl rfl) (pe_lst pa_nil))
      (pss_cons (ps_for (passes_of rfl) rfl (x_enum B (pv 0)) (pg_tup rfl (pgs_cons (pg_name (i := 2) sc_entries_in.nd rfl (Or.inl rfl)) (pgs_cons (pg_name (i := 3) sc_entries_in.nd rfl (Or.inl rfl)) pgs_nil))) (pss_cons (ps_set (i := 4) sc_entries_in.nd rfl (Or.inl rfl) (pe_f c_entry_in hr takesD (pa_cons (pv 3) pa_nil)))
      (pss_cons (ps_if (t_isN (pv 4) pe_non) (pss_one (ps_raiseC T_NoText hr takesD (pv 2))) pss_nil)
      (pss_one (ps_expr (x_app (K := K) (pv 1) (pa_cons (pv 4) pa_nil)))))))
      (pss_one (ps_ret (pv 1))))), fun b xs st Φ Ψ h hW => ?_⟩)
  · obtain ⟨x, rfl, _⟩ := h
    rfl
  · obtain ⟨ls, rfl, ⟨hlen, hl⟩, k⟩ := h
    refine ws_sq (ws_asg (wx_lst (xs := []) ea_nil (by decide) ?_))
    refine ws_sq (ws_for (wi_of (ei_enum (ea_cons (ev_var rfl) ea_nil)) ?_))
    refine ⟨fun i sl1 st1 => (∃ x2 x3 x4, sl1 = [some (dL (rowsD ls)), some (.o st.length), x2, x3, x4]) ∧ st1 = st ++ [.lst ((entsD (ls.take i)).map AV.d)] ∧ ∀ j x, j < i → ls[j]? = some x → goodL x = true, ⟨⟨none, none, none, rfl⟩, rfl, fun j x hj => absurd hj (Nat.not_lt_zero _)⟩, ?_, ?_⟩
    · rintro i x sl1 st1 hx ⟨⟨x2, x3, x4, rfl⟩, rfl, hg⟩
      rw [List.getElem?_map, enumD_get] at hx
      unfold rowsD at hx
      rw [List.getElem?_map] at hx
      cases hi : ls[i]? with
      | none => rw [hi] at hx; cases hx
      | some l =>
        rw [hi] at hx
        cases hx
        have hok := hl l (List.mem_of_getElem? hi)
        refine ⟨_, _, eg_tup (ds := [_, _]) (egs_cons eg_name (egs_cons eg_name egs_nil)) rfl, ?_⟩
        refine ws_asgS (x := .d (entryL l)) (ev_cal rnil (ea_cons (ev_var rfl) ea_nil) ⟨l, rfl, hok, rfl, rfl⟩) ?_
        refine ws_guard (et_test (ev_op (ev_var rfl) ev_n o_isN)) (fun hn => ?_) (fun hn => ?_)
        · have hbad : goodL l = false := by
            cases hgl : goodL l with
            | false => rfl
            | true =>
              unfold entryL at hn
              rw [if_pos hgl] at hn
              cases hn
          refine ws_raiseC hW (wx_of (ev_var rfl) ?_)
          have e := bad_at hi hbad hg
          rw [e] at k
          have := k [.lst ((entsD (ls.take i)).map AV.d)]
          simpa [nt] using this
        · have hgood : goodL l = true := by
            cases hgl : goodL l with
            | true => rfl
            | false =>
              unfold entryL at hn
              rw [if_neg (by rw [hgl]; decide)] at hn
              cases hn
          have ee : entryL l = .tuple (foundL l) := by unfold entryL; rw [if_pos hgood]
          have n1 : (st ++ [AO.lst ((entsD (ls.take i)).map AV.d)])[st.length]? = some (.lst ((entsD (ls.take i)).map AV.d)) := by simp
          refine ws_app (n := st.length) (ev_var rfl) (wx_of (ev_var rfl) ⟨_, n1, ?_, ⟨⟨_, _, _, rfl⟩, ?_, ?_⟩⟩) ⟨_, n1⟩
          · unfold entsD
            rw [List.length_map, List.length_map, List.length_take]
            omega
          · have et : ls.take (i + 1) = ls.take i ++ [l] := take_get hi
            rw [et, ee]
            simp [entsD]
          · intro j x hj hx
            by_cases h : j < i
            · exact hg j x h hx
            · have : j = i := by omega
              subst this
              rw [hi] at hx
              cases hx
              exact hgood
    · rintro sl1 st1 ⟨⟨x2, x3, x4, rfl⟩, rfl, hg⟩
      have hlen2 : ((enumD 0 (rowsD ls)).map AV.d).length = ls.length := by rw [List.length_map, enumD_len]; unfold rowsD; rw [List.length_map]
      rw [hlen2, List.take_length]
      rw [hlen2] at hg
      have e := bad_all (ls := ls) fun j x hx => hg j x (List.getElem?_eq_some_iff.mp hx).1 hx
      rw [e] at k
      refine ws_kill (i := st.length) (j := 1) (ds := entsD ls) rfl (by simp) ?_
      refine ws_retE (ev_var rfl) ?_
      have := k [.dead]
      simpa using this
theorem ok_entries_in (B : BT mg) (F : Fn K "entries_in" 25 f fd) (c_entry_in : DefD P w K mg base 4 "entry_in" fEntryIn) (T_NoText : ExcD P w K mg base "NoText" C "row") : FnOk P w K mg base (L2.CX P w) 5 f fd ["rows"] (spD K (fEntriesIn C)) :=
  gc_imp (fun xs st Φ Ψ ⟨ls, e, h, k⟩ => ⟨ls, e, h, by
    cases hb : badAt ls with
    | none =>
      rw [hb] at k
      exact fun ex => ⟨ex, rfl, ⟨_, rfl⟩, k⟩
    | some i =>
      rw [hb] at k
      exact fun ex => ⟨ex, rfl, nt_data C i, k⟩⟩) (ok_entries_in0 B F c_entry_in T_NoText)
end
end K68

set_option Elab.async false
set_option linter.all false
set_option maxRecDepth 100000
set_option maxHeartbeats 4000000
namespace K68
open PySem PySem.Spec PyProof.Rows L2 AL
open TX (Fl okZ cut)
theorem cutD_init (xs : List PyData) (y : PyData) : AL.cutD (xs ++ [y]) none (some (-1)) = xs := by
  unfold AL.cutD HT.sIx
  simp
  have e : (-1 + ((xs.length : Int) + 1)).toNat = xs.length := by omega
  rw [e]
  simp
theorem atI_last {α : Type} (xs : List α) (y : α) : atI (xs ++ [y]) (-1) = some y := by
  have h : ixN (xs ++ [y]).length (-1) = some xs.length := by
    unfold ixN
    rw [if_neg (by decide), List.length_append, List.length_singleton, if_pos (by omega)]
    congr 1
    omega
  unfold atI
  rw [h]
  simp
/-- what stands ahead of the last row, the last row -/
def ini (l : List Nat) : List (List Nat) := (cut 10 l).dropLast
def lst (l : List Nat) : List Nat := (cut 10 l).getLast (TX.cut_ne 10 l)
theorem rows_eq (l : List Nat) : cut 10 l = ini l ++ [lst l] := (List.dropLast_concat_getLast (TX.cut_ne 10 l)).symm
theorem ini_ok {l : List Nat} (h : okL l) : okR (ini l) ∧ okL (lst l) := by
  have h1 := TX.cut_len 10 l
  refine ⟨⟨?_, fun p hp => ok_cut h (by rw [rows_eq]; exact List.mem_append_left _ hp)⟩, ok_cut h (by rw [rows_eq]; simp)⟩
  rw [rows_eq] at h1
  simp at h1
  have := h.1
  omega
def rdCut (C : Addr) (x : PyData) (Φ : PyData → Prop) (Ψ : AE → Prop) : Prop := match x with
  | .str z => match badAt (ini z.cps.toList) with
    | none => Φ (.tuple [.list (entsD (ini z.cps.toList)), .str (AL.S (lst z.cps.toList))])
    | some i => Ψ (nt C i)
  | _ => Ψ (nt C 0)
def rd (C : Addr) (x : PyData) (Φ : PyData → Prop) (Ψ : AE → Prop) : Prop := match x with
  | .str z => match badAt (ini z.cps.toList) with
    | none => if lst z.cps.toList = [] then Φ (.list (entsD (ini z.cps.toList))) else Ψ (nt C (ini z.cps.toList).length)
    | some i => Ψ (nt C i)
  | _ => Ψ (nt C 0)
def okX : PyData → Prop
  | .str z => okL z.cps.toList
  | _ => True
def fReadCut (C : Addr) : DS := fun xs st Φ Ψ => ∃ x, xs = [.d x] ∧ okX x ∧ rdCut C x (fun y => Φ (.d y) st) (fun e => Ψ e st)
def fRead (C : Addr) : DS := fun xs st Φ Ψ => ∃ x, xs = [.d x] ∧ okX x ∧ rd C x (fun y => Φ (.d y) st) (fun e => Ψ e st)
section
variable {P : Program} {w : World} {K : PySem.W.Frag} {mg : Str → Option Value} {base : Heap} {f d C : Addr} {fd : FuncData} {a : Ads}
theorem ok_read_cut (B : BT mg) (F : Fn K "read_cut" 26 f fd) (c_entries_in : DefD P w K mg base 5 "entries_in" (fEntriesIn C)) (T_NoText : ExcD P w K mg base "NoText" C "row") : FnOk P w K mg base (L2.CX P w) 6 f fd ["text"] (spD K (fReadCut C)) := by
  refine fn_D F sc_read_cut (fun xs st Φ Ψ h => ?_) (fun cdv A outer s H E hr => ⟨_, (pss_cons (ps_if (pt_not (pt_val (x_is (K := K) B (pv 0) (ty_str B)))) (pss_one (ps_raiseC T_NoText hr takesD pe_int)) pss_nil)
      (pss_cons (ps_set (i := 1) sc_read_cut.nd rfl (Or.inl rfl) (x_split (K := K) (pv 0) (pa_cons pe_str pa_nil)))
      (pss_one (ps_ret (pe_tup (pa_cons (pe_f c_entries_in hr takesD (pa_cons (x_sl (K := K) (pv 1) po_none (po_some (x_neg pe_int))) pa_nil)) (pa_cons (x_ix (K := K) (pv 1) (x_neg pe_int)) pa_nil))))))), fun b xs st Φ Ψ h hW => ?_⟩)
  · obtain ⟨x, rfl, _⟩ := h
    rfl
  · obtain ⟨x, rfl, hx, k⟩ := h
    cases x with
    | str z =>
      have hz : z = AL.S z.cps.toList := (TX.S_tl z).symm
      generalize hl : z.cps.toList = l at hz k
      have hok : okL l := by rw [← hl]; exact hx
      subst hz
      have k : rdCut C (.str (AL.S l)) (fun y => Φ (.d y) st) (fun e => Ψ e st) := by unfold rdCut; exact k
      obtain ⟨h1, h2⟩ := ini_ok hok
      refine ws_guard (et_not (et_B (ev_isS (x := .str (AL.S l)) (ev_var rfl)))) (fun hp => by cases hp) (fun _ => ?_)
      have es : Ev K (tBM K "str" rSPLIT (tVar 0) (tCons (tC (.str "\n")) tNil)) (startS ["text", "rows"] [dS (AL.S l)]) st (dL (rowsD (ini l) ++ [.str (AL.S (lst l))])) := by
        have := ev_bm (ev_var (sl := startS ["text", "rows"] [dS (AL.S l)]) (i := 0) rfl) (ea_cons (ev_s (z := AL.S [10])) ea_nil) (o_split (K := K) (st := st) (a := AL.S l) (b := AL.S [10]) rfl (by rw [TX.S_len]; have := hok.1; omega))
        rw [TX.split_cut (by decide), List.map_map, rows_eq, List.map_append] at this
        exact this
      refine ws_asgS es ?_
      have v1 : Ev K (tVar 1) ((startS ["text", "rows"] [dS (AL.S l)]).set 1 (some (dL (rowsD (ini l) ++ [.str (AL.S (lst l))])))) st (dL (rowsD (ini l) ++ [.str (AL.S (lst l))])) := ev_var rfl
      have e1 := ev_sl (r := rSL K) v1 eo_none (eo_some (ev_neg (ev_i (i := 1)))) o_slL
      have e0 : (-1 : Int) = -1 := rfl
      rw [cutD_init] at e1
      refine ws_ret (wx_tup (wa_cons (wx_cal hW rnil (wa_of (ea_cons e1 ea_nil) ⟨ini l, rfl, h1, ?_⟩))))
      unfold rdCut at k
      simp only at k
      cases hb : badAt (ini l) with
      | none =>
        rw [hb] at k
        exact wa_cons (wx_of (ev_op v1 (ev_neg (ev_i (i := 1))) (o_ixL (atI_last _ _))) (wa_nil ⟨[_, _], rfl, Nat.le_of_ble_eq_true rfl, k⟩))
      | some i =>
        rw [hb] at k
        exact k
    | _ => exact ws_guard (et_not (et_B (ev_isS (ev_var rfl)))) (fun _ => ws_raiseC hW (wx_of ev_i k)) (fun hp => by cases hp)
theorem ok_read (B : BT mg) (F : Fn K "read" 27 f fd) (c_read_cut : DefD P w K mg base 6 "read_cut" (fReadCut C)) (T_NoText : ExcD P w K mg base "NoText" C "row") : FnOk P w K mg base (L2.CX P w) 7 f fd ["text"] (spD K (fRead C)) := by
  refine fn_D F sc_read (fun xs st Φ Ψ h => ?_) (fun cdv A outer s H E hr => ⟨_, (pss_cons (ps_asg (pe_f c_read_cut hr takesD (pa_cons (pv 0) pa_nil)) (pg_tup rfl (pgs_cons (pg_name (i := 1) sc_read.nd rfl (Or.inl rfl)) (pgs_cons (pg_name (i := 2) sc_read.nd rfl (Or.inl rfl)) pgs_nil))))
      (pss_cons (ps_if (t_ne (K := K) hr.units (pv 2) pe_str) (pss_one (ps_raiseC T_NoText hr takesD (x_len (K := K) B (pv 1)))) pss_nil)
      (pss_one (ps_ret (pv 1))))), fun b xs st Φ Ψ h hW => ?_⟩)
  · obtain ⟨x, rfl, _⟩ := h
    rfl
  · obtain ⟨x, rfl, hx, k⟩ := h
    refine ws_sq (ws_asgG (wx_cal hW rnil (wa_of (ea_cons (ev_var rfl) ea_nil) ⟨x, rfl, hx, ?_⟩)))
    cases x with
    | str z =>
      unfold rd at k
      unfold rdCut
      simp only at k ⊢
      cases hb : badAt (ini z.cps.toList) with
      | some i => rw [hb] at k; exact k
      | none =>
        rw [hb] at k
        simp only at k ⊢
        refine ⟨_, _, eg_tup (ds := [_, _]) (egs_cons eg_name (egs_cons eg_name egs_nil)) rfl, ?_⟩
        refine ws_guard (et_test (ev_op (ev_var rfl) ev_s (o_neS (y := AL.S [])))) (fun hp => ?_) (fun hp => ?_)
        · have hne : ¬ lst z.cps.toList = [] := by
            intro e
            rw [e] at hp
            simp at hp
          rw [if_neg hne] at k
          refine ws_raiseC hW (wx_of (ev_lenL (ev_var rfl)) ?_)
          have e : (entsD (ini z.cps.toList)).length = (ini z.cps.toList).length := by unfold entsD; rw [List.length_map]
          rw [e]
          exact k
        · have he : lst z.cps.toList = [] := by simpa [S_inj] using hp
          rw [if_pos he] at k
          exact ws_retE (ev_var rfl) k
    | _ => exact k
end
end K68

set_option Elab.async false
set_option linter.all false
set_option maxRecDepth 100000
set_option maxHeartbeats 4000000
namespace K68
open PySem PySem.Spec PyProof.Rows L2 AL
open TX (Fl okZ cut)
/-! ### the room -/
def RmO (a b : Int) : AO := .lst [dI a, dI b]
def fTake : DS := fun xs st Φ _ => ∃ n a b m, xs = [.o n, dI m] ∧ st[n]? = some (RmO a b) ∧ (0 < m ∧ m < 1000000) ∧ ∀ r a' b', 0 ≤ r → r < m → Φ (dI r) (st.set n (RmO a' b'))
def spRoom (K : PySem.W.Frag) : Sp := fun vs H Q _ => ∃ (c : Cf) (a : Addr) (ns : List Int) (k : Int), vs = [.ref a, .int k] ∧ c.hp = H ∧ SR K c ∧ Scr K c a ns ∧ (0 ≤ k ∧ k < 1000) ∧ ∀ v c' x y, Tr c c' → SR K c' → Rv K c' v (.o c.st.length) → c'.st = c.st ++ [RmO x y] → Q v c'.hp
theorem set_get {st : Sto} {n : Nat} {o o' : AO} (h : st[n]? = some o) : (st.set n o')[n]? = some o' := List.getElem?_set_self (List.getElem?_eq_some_iff.mp h).1
theorem run_ws {K : PySem.W.Frag} {c : Cf} {t : TS} {N : List Str} {vs : List V} {xs : List AV} {e : DE} (W : Ws K c t (startS N xs) c.st e) (s0 : SR K c) (r : Rvs K c vs xs) (D : Ends) (d : DOk K c D e) : t D (L2.start N vs) c.hp :=
  W c (Tr.refl c) D d c _ rfl (Tr.refl c) s0 (ss_start r)
section
variable {P : Program} {w : World} {K : PySem.W.Frag} {mg : Str → Option Value} {base : Heap} {f d C : Addr} {fd : FuncData} {a : Ads}
theorem sc_law_room : FnScope ["_law_script", "_law_k", "_law_cell", "_law_left"] ["_law_script", "_law_k"] (defScope (top 29)) := C8.fnScope_by (by decide +kernel)
theorem sc_law_take : FnScope ["_law_room_here", "_law_many", "_law_found"] ["_law_room_here", "_law_many"] (defScope (top 30)) := C8.fnScope_by (by decide +kernel)
theorem sc_law_word_of : FnScope ["_law_thing_here"] ["_law_thing_here"] (defScope (top 31)) := C8.fnScope_by (by decide +kernel)
theorem sc_law_line_of : FnScope ["_law_entry_here", "_law_thing_here"] ["_law_entry_here"] (defScope (top 32)) := C8.fnScope_by (by decide +kernel)
theorem ok_law_room (B : BT mg) (F : Fn K "_law_room" 29 f fd) : FnOk P w K mg base (L2.CX P w) 1 f fd ["_law_script", "_law_k"] (spRoom K) := by
  refine F.ok sc_law_room (fun vs H Q E h => ?_) (fun cdv A outer s H vs Q E hr h => ?_)
  · obtain ⟨_, _, _, _, rfl, _⟩ := h
    rfl
  · obtain ⟨c, a, ns, n, rfl, rfl, s0, hs, ⟨h0, h1⟩, k⟩ := h
    refine ⟨_, (pss_cons (ps_set (i := 2) sc_law_room.nd rfl (Or.inl rfl) pe_int)
      (pss_cons (ps_if (t_lt (pv 1) (x_len (K := K) B (pv 0))) (pss_one (ps_set (i := 2) sc_law_room.nd rfl (Or.inl rfl) (x_ix (K := K) (pv 0) (pv 1)))) pss_nil)
      (pss_cons (ps_set (i := 3) sc_law_room.nd rfl (Or.inl rfl) pe_int)
      (pss_cons (ps_if (t_ge (pv 2) (x_pow pe_int pe_int)) (pss_one (ps_set (i := 3) sc_law_room.nd rfl (Or.inl rfl) (pv 2))) pss_nil)
      (pss_one (ps_ret (pe_lst (pa_cons (pv 3) (pa_cons (x_mod (x_mul (x_add (K := K) (x_add (K := K) (x_mod (pv 2) pe_int) (x_mul (x_mul pe_int (pv 1)) (pv 1))) pe_int) pe_int) pe_int) pa_nil))))))))), ?_⟩
    let e : DE := { nx := fun _ _ => False, rt := fun x st' => x = .o c.st.length ∧ ∃ x y, st' = c.st ++ [RmO x y] }
    have fin : ∀ (cell : Int), Ws K c (tSeq (tAsg (tC (.int 0)) (gName 3)) (tSeq (tIfS (tTest (tOp (rI0 fun i j => .bl (decide (j ≤ i))) (tVar 2) (tOp rPOW (tC (.int 10)) (tC (.int 18))))) (tAsg (tVar 2) (gName 3)) tNext) (tRet (tLst (tCons (tVar 3) (tCons (tOp rMOD (tOp rMUL (tOp (rADD K) (tOp (rADD K) (tOp rMOD (tVar 2) (tC (.int 2147483629))) (tOp rMUL (tOp rMUL (tC (.int 104729)) (tVar 1)) (tVar 1))) (tC (.int 7))) (tC (.int 48271))) (tC (.int 2147483647))) tNil))))))
        ((startS ["_law_script", "_law_k", "_law_cell", "_law_left"] [.raw (.ref a), dI n]).set 2 (some (dI cell))) c.st e := fun cell => by
      refine ws_asgS ev_i ?_
      have fin2 : ∀ left : Int, Ws K c (tRet (tLst (tCons (tVar 3) (tCons (tOp rMOD (tOp rMUL (tOp (rADD K) (tOp (rADD K) (tOp rMOD (tVar 2) (tC (.int 2147483629))) (tOp rMUL (tOp rMUL (tC (.int 104729)) (tVar 1)) (tVar 1))) (tC (.int 7))) (tC (.int 48271))) (tC (.int 2147483647))) tNil))))
          [some (.raw (.ref a)), some (dI n), some (dI cell), some (dI left)] c.st e := fun left => by
        refine ws_ret (wx_lst (ea_cons (ev_var rfl) (ea_cons (ev_op (ev_op (ev_op (ev_op (ev_op (ev_var rfl) ev_i (o_IC (by decide))) (ev_op (ev_op ev_i (ev_var rfl) (o_mulI (Or.inl (by decide)))) (ev_var rfl) (o_mulI (Or.inr (by omega)))) o_addI) ev_i o_addI) ev_i (o_mulI (Or.inr (by decide)))) ev_i (o_IC (by decide))) ea_nil)) (Nat.le_of_ble_eq_true rfl) ⟨rfl, _, _, rfl⟩)
      have et : Et K (tTest (tOp (rI0 fun i j => .bl (decide (j ≤ i))) (tVar 2) (tOp rPOW (tC (.int 10)) (tC (.int 18))))) [some (.raw (.ref a)), some (dI n), some (dI cell), some (dI 0)] c.st (decide ((10:Int) ^ (18:Int).toNat ≤ cell)) := et_test (ev_op (ev_var rfl) (ev_op ev_i ev_i (o_IC ⟨by decide, by decide, by decide⟩)) o_Ib)
      exact ws_sq (ws_ifE et (fun _ => ws_asgE (ev_var rfl) (fin2 cell)) fun _ => ws_next (fin2 0))
    refine run_ws (e := e) (xs := [.raw (.ref a), dI n]) ?_ s0 (.cons rfl (.cons (.int _) .nil)) _ ⟨fun c' σ sl t' s' S' k => k.elim, fun c' v x t' s' r ⟨e1, x1, y1, e2⟩ => k v c' x1 y1 t' s' (e1 ▸ r) e2, fun c' σ sl _ _ _ k => k.elim, fun c' σ sl _ _ _ k => k.elim⟩
    · refine ws_asgS ev_i ?_
      refine ws_sq (ws_if (wt_test (wx_op (wx_of (ev_var rfl) (wx_lenR hs rfl ⟨_, o_Ib, _, rfl, ?_⟩)))))
      by_cases hp : n < ns.length
      · rw [if_pos (decide_eq_true hp)]
        have hat : atI ns n = some ns[n.toNat] := by
          unfold atI ixN
          rw [if_pos h0, if_pos hp]
          simp
        exact ws_asg (wx_ixR hs rfl (ev_var rfl) hat (fin _))
      · rw [if_neg (by simpa using hp)]
        exact ws_next (fin 0)
theorem ok_law_take (B : BT mg) (F : Fn K "_law_take" 30 f fd) : FnOk P w K mg base (L2.CX P w) 1 f fd ["_law_room_here", "_law_many"] (spD K fTake) := by
  refine fn_D F sc_law_take (fun xs st Φ Ψ h => ?_) (fun cdv A outer s H E hr => ⟨_, (pss_cons (ps_if (t_gt (x_ix (K := K) (pv 0) pe_int) pe_int) (pss_cons (ps_set (i := 2) sc_law_take.nd rfl (Or.inl rfl) (x_mod (x_ix (K := K) (pv 0) pe_int) (pv 1)))
      (pss_cons (ps_asg (x_fdiv (x_ix (K := K) (pv 0) pe_int) (pv 1)) (pg_sub (pv 0) pe_int set_list))
      (pss_one (ps_ret (pv 2))))) pss_nil)
      (pss_cons (ps_asg (x_mod (x_add (K := K) (x_mul (x_ix (K := K) (pv 0) pe_int) pe_int) pe_int) pe_int) (pg_sub (pv 0) pe_int set_list))
      (pss_cons (ps_set (i := 2) sc_law_take.nd rfl (Or.inl rfl) (x_fdiv (x_mod (x_mul (x_ix (K := K) (pv 0) pe_int) (x_ix (K := K) (pv 0) pe_int)) pe_int) pe_int))
      (pss_cons (ps_if (t_gt (pv 1) (x_pow pe_int pe_int)) (pss_cons (ps_asg (x_mod (x_add (K := K) (x_mul (x_ix (K := K) (pv 0) pe_int) pe_int) pe_int) pe_int) (pg_sub (pv 0) pe_int set_list))
      (pss_one (ps_set (i := 2) sc_law_take.nd rfl (Or.inl rfl) (x_add (K := K) (x_mul (pv 2) pe_int) (x_mod (x_mul (x_ix (K := K) (pv 0) pe_int) (x_ix (K := K) (pv 0) pe_int)) pe_int))))) pss_nil)
      (pss_one (ps_ret (x_mod (pv 2) (pv 1)))))))), fun b xs st Φ Ψ h hW => ?_⟩)
  · obtain ⟨_, _, _, _, rfl, _⟩ := h
    rfl
  · obtain ⟨n, x, y, m, rfl, hn, ⟨h0, h1⟩, k⟩ := h
    have ex : ∀ sl', sl'[0]? = some (some (AV.o n)) → Ev K (tOp (rIx K) (tVar 0) (tC (.int 0))) sl' st (dI x) := fun sl' h => ev_op (ev_var h) ev_i (o_ixO hn rfl)
    have ey : ∀ (sl' : Sl) (st' : Sto) (x' y' : Int), sl'[0]? = some (some (AV.o n)) → st'[n]? = some (RmO x' y') → Ev K (tOp (rIx K) (tVar 0) (tC (.int 1))) sl' st' (dI y') := fun sl' st' x' y' h hn => ev_op (ev_var h) ev_i (o_ixO hn rfl)
    refine ws_guard (et_test (ev_op (ex _ rfl) ev_i o_Ib)) (fun _ => ?_) (fun _ => ?_)
    · refine ws_asgS (ev_op (ex _ rfl) (ev_var rfl) (o_IC h0)) ?_
      refine ws_sq (ws_setL (wx_of (ev_op (ex _ rfl) (ev_var rfl) (o_IC ⟨h0, by omega⟩)) ⟨0, 0, _, ev_var rfl, ev_i, hn, rfl, ?_⟩))
      exact ws_retE (ev_var rfl) (k _ _ y (Int.emod_nonneg _ (by omega)) (Int.emod_lt_of_pos _ h0))
    · refine ws_sq (ws_setL (wx_of (ev_op (ev_op (ev_op (ey _ _ x y rfl hn) ev_i (o_mulI (Or.inr (by decide)))) ev_i o_addI) ev_i (o_IC (by decide))) ⟨1, 1, _, ev_var rfl, ev_i, hn, rfl, ?_⟩))
      generalize hy : (y * 48271 + 39373) % 2147483647 = y1
      have b1 : 0 ≤ y1 ∧ y1 < 2147483647 := by omega
      have hn1 : (st.set n (RmO x y1))[n]? = some (RmO x y1) := set_get hn
      refine ws_asgS (ev_op (ev_op (ev_op (ey _ _ x y1 rfl hn1) (ey _ _ x y1 rfl hn1) (o_mulI (Or.inl (by omega)))) ev_i (o_IC (by decide))) ev_i (o_IC ⟨by decide, by decide⟩)) ?_
      have et : Et K (tTest (tOp (rI0 fun i j => .bl (decide (j < i))) (tVar 1) (tOp rPOW (tC (.int 10)) (tC (.int 6))))) [some (.o n), some (dI m), some (dI (y1 * y1 % 2147483629 / 16))] (st.set n (RmO x y1)) (decide ((10:Int) ^ (6:Int).toNat < m)) := et_test (ev_op (ev_var rfl) (ev_op ev_i ev_i (o_IC ⟨by decide, by decide, by decide⟩)) o_Ib)
      refine ws_sq (ws_ifE et (fun hp => ?_) fun _ => ws_next ?_)
      · have := of_decide_eq_true hp
        have e : (10:Int) ^ (6:Int).toNat = 1000000 := by decide
        omega
      · exact ws_retE (ev_op (ev_var rfl) (ev_var rfl) (o_IC h0)) (k _ _ _ (Int.emod_nonneg _ (by omega)) (Int.emod_lt_of_pos _ h0))
theorem ok_law_word_of (B : BT mg) (F : Fn K "_law_word_of" 31 f fd) : FnOk P w K mg base (L2.CX P w) 1 f fd ["_law_thing_here"] (spD K fWordOf) := by
  refine fn_D F sc_law_word_of (fun xs st Φ Ψ h => ?_) (fun cdv A outer s H E hr => ⟨_, (pss_cons (ps_if (t_isN (pv 0) pe_non) (pss_one (ps_ret pe_str)) pss_nil)
      (pss_one (ps_ret (pe_ifExp (pt_val (x_is (K := K) B (pv 0) (ty_tuple B))) (x_add (K := K) pe_str (x_join (K := K) pe_str (pa_cons (pv 0) pa_nil))) (x_str B (pv 0)))))), fun b xs st Φ Ψ h hW => ?_⟩)
  · obtain ⟨x, rfl, _⟩ := h
    rfl
  · obtain ⟨x, rfl, hx, k⟩ := h
    have t0 : Et K (tTest (tOp rIsN (tVar 0) (tC .non))) (startS ["_law_thing_here"] [.d x]) st (AL.isNone x) := et_test (ev_op (ev_var rfl) ev_n o_isN)
    have t1 : Et K (tB (tCB (rIs K) (tCons (tVar 0) (tCons (tC (.ty "tuple")) tNil)))) (startS ["_law_thing_here"] [.d x]) st (isTupD x) := et_B (ev_isT (ev_var rfl))
    cases x with
    | none => exact ws_guard t0 (fun _ => ws_retE ev_s k) (fun hp => by cases hp)
    | int i => exact ws_guard t0 (fun hp => by cases hp) (fun _ => ws_retE (ev_if t1 (fun h => by cases h) fun _ => ev_cb (ea_cons (ev_var rfl) ea_nil) (o_strsI hx)) k)
    | str z => exact ws_guard t0 (fun hp => by cases hp) (fun _ => ws_retE (ev_if t1 (fun h => by cases h) fun _ => ev_cb (ea_cons (ev_var rfl) ea_nil) o_strsS) k)
    | tuple ds =>
      obtain ⟨h1, h2⟩ := hx
      have es := strs_of h1
      have hv : Ev K (tVar 0) (startS ["_law_thing_here"] [.d (.tuple ds)]) st (dT ((ds.map strOf).map PyData.str)) := by rw [← es]; exact ev_var rfl
      have hs : ((ds.map strOf).map (·.length)).sum + (ds.map strOf).length * 1 ≤ 100000 := by
        rw [List.map_map, List.length_map, Nat.mul_one]; exact h2
      have hj := join_le [47] (ds.map strOf)
      exact ws_guard t0 (fun hp => by cases hp) (fun _ => ws_retE (ev_if t1 (fun _ => ev_op ev_s (ev_bm ev_s (ea_cons hv ea_nil) (o_joinT (a := AL.S [47]) (by show _ + _ * (AL.S [47]).length ≤ _; rw [TX.S_len]; exact Nat.le_trans hs (by decide)))) (o_addS (x := AL.S [47]) (by rw [TX.S_len]; simp only [List.length_cons, List.length_nil] at hj ⊢; omega))) fun h => by cases h) k)
    | bool _ => exact hx.elim
    | list _ => exact hx.elim
    | dict _ => exact hx.elim
theorem ok_law_line_of (B : BT mg) (F : Fn K "_law_line_of" 32 f fd) (c__law_word_of : DefD P w K mg base 1 "_law_word_of" fWordOf) : FnOk P w K mg base (L2.CX P w) 2 f fd ["_law_entry_here"] (spD K fShown) := by
  refine fn_D F sc_law_line_of (fun xs st Φ Ψ h => ?_) (fun cdv A outer s H E hr => ⟨_, (pss_one (ps_ret (x_join (K := K) pe_str (pa_cons (pe_lc (own := [("_law_thing_here", 1)]) (g := gName 1) (tt := tYes) rfl sc_law_line_of.nd (pi_tup (pv 0)) (blkOk_by (N := ["_law_entry_here", "_law_thing_here"]) (sc := defScope (top 32)) (by decide +kernel)) (fun _ _ _ _ _ => pg_name (i := 1) sc_law_line_of.nd rfl (Or.inl rfl)) (fun _ _ _ _ _ => pts_nil) (fun _ _ _ _ _ => (pe_f c__law_word_of hr takes0 (pa_cons (pv 1) pa_nil)))) pa_nil)))), fun b xs st Φ Ψ h hW => ?_⟩)
  · obtain ⟨x, rfl, _⟩ := h
    rfl
  · obtain ⟨ds, rfl, hx, hl, k⟩ := h
    have el := ev_lcN (K := K) (te := tCalW (spD K fWordOf) [] (fun _ _ _ _ => False) (tCons (tVar 1) tNil)) (sl := startS ["_law_entry_here", "_law_thing_here"] [dT ds]) (st := st) (j := 1) (vs := [1]) (mk := AV.d) (f := fun d => .str (wordOf d)) (ei_tup (ds := ds) (ev_var (i := 0) rfl)) (by omega) (by decide) fun d hd => ev_cal rnil (ea_cons (ev_var rfl) ea_nil) ⟨d, rfl, hx d hd, rfl, rfl⟩
    have e2 : (ds.map fun d => PyData.str (wordOf d)) = (ds.map wordOf).map PyData.str := by rw [List.map_map]; rfl
    rw [e2] at el
    have hb : ((ds.map wordOf).map (·.length)).sum ≤ 10 * 200000 := by
      have g : ∀ l : List PyData, (∀ d ∈ l, Wd d) → ((l.map wordOf).map (·.length)).sum ≤ l.length * 200000 := by
        intro l
        induction l with
        | nil => intro _; simp
        | cons d l ih =>
          intro h
          have h1 := wd_len (h d (List.mem_cons_self ..))
          have h2 := ih fun x hx => h x (List.mem_cons_of_mem _ hx)
          simp only [List.map_cons, List.sum_cons, List.length_cons] at h2 ⊢
          omega
      exact Nat.le_trans (g ds hx) (Nat.mul_le_mul_right _ hl)
    have hb2 : ((ds.map wordOf).map (·.length)).sum + ds.length * 1 ≤ 10000000 := by
      rw [Nat.mul_one]
      exact Nat.le_trans (Nat.add_le_add hb hl) (by decide)
    exact ws_retE (ev_bm ev_s (ea_cons el ea_nil) (o_joinL (a := AL.S [32]) (by rw [TX.S_len, List.length_map]; exact hb2))) k
end
end K68

set_option Elab.async false
set_option linter.all false
set_option maxRecDepth 100000
set_option maxHeartbeats 4000000
namespace K68
open PySem PySem.Spec PyProof.Rows L2 AL
open TX (Fl okZ cut)
/-! ### short texts -/
def sm (n : Nat) (l : List Nat) : Prop := l.length ≤ n ∧ ∀ c ∈ l, c < 128
theorem sm_mono {n m : Nat} {l : List Nat} (h : sm n l) (k : n ≤ m) : sm m l := ⟨Nat.le_trans h.1 k, h.2⟩
theorem sm_app {n m : Nat} {a b : List Nat} (h : sm n a) (k : sm m b) : sm (n + m) (a ++ b) := ⟨by rw [List.length_append]; have := h.1; have := k.1; omega, fun c hc => by
  rcases List.mem_append.mp hc with q | q
  · exact h.2 c q
  · exact k.2 c q⟩
theorem sm_take {n : Nat} {a : List Nat} (i : Nat) (h : sm n a) : sm n (a.take i) := ⟨by rw [List.length_take]; have := h.1; omega, fun c hc => h.2 c (List.mem_of_mem_take hc)⟩
theorem sm_drop {n : Nat} {a : List Nat} (i : Nat) (h : sm n a) : sm n (a.drop i) := ⟨by rw [List.length_drop]; have := h.1; omega, fun c hc => h.2 c (List.mem_of_mem_drop hc)⟩
theorem joinL_mem {s : List Nat} : ∀ {ps : List (List Nat)} {c : Nat}, c ∈ TL.joinL s ps → c ∈ s ∨ ∃ p ∈ ps, c ∈ p
  | [], c, h => by simp [TL.joinL] at h
  | [p], c, h => Or.inr ⟨p, List.mem_singleton.mpr rfl, by simpa [TL.joinL] using h⟩
  | p :: q :: r, c, h => by
    simp only [TL.joinL, List.mem_append] at h
    rcases h with h | h | h
    · exact Or.inr ⟨p, List.mem_cons_self .., h⟩
    · exact Or.inl h
    · rcases joinL_mem h with h | ⟨p', hp, h⟩
      · exact Or.inl h
      · exact Or.inr ⟨p', List.mem_cons_of_mem _ hp, h⟩
theorem sm_join {s : List Nat} {ps : List (List Nat)} {n m k : Nat} (hs : sm k s) (h : ∀ p ∈ ps, ∀ c ∈ p, c < 128) (hn : (ps.map List.length).sum + ps.length * k ≤ m) : sm m (TL.joinL s ps) := ⟨by
  have h1 := TX.joinL_len s ps
  have h2 : ps.length * s.length ≤ ps.length * k := Nat.mul_le_mul_left _ hs.1
  omega, fun c hc => by
  rcases joinL_mem hc with q | ⟨p, hp, q⟩
  · exact hs.2 c q
  · exact h p hp c q⟩
theorem sum_le {ps : List (List Nat)} {n : Nat} (h : ∀ p ∈ ps, p.length ≤ n) : (ps.map List.length).sum ≤ ps.length * n := by
  induction ps with
  | nil => simp
  | cons p ps ih =>
    have h1 := h p (List.mem_cons_self ..)
    have h2 := ih fun q hq => h q (List.mem_cons_of_mem _ hq)
    simp only [List.map_cons, List.sum_cons, List.length_cons, Nat.add_mul, Nat.one_mul]
    omega
/-! ### what is drawn -/
def SHORT : List (List Nat) := [[97], [98, 98], [97, 98, 99, 100, 101, 102, 103, 104]]
def wsD (ws : List (List Nat)) : List PyData := ws.map fun l => .str (AL.S l)
def fPath : DS := fun xs st Φ _ => ∃ n a b, xs = [.o n] ∧ st[n]? = some (RmO a b) ∧ ∀ ws a' b', ws.length ≤ 5 → (∀ l ∈ ws, sm 8 l) → Φ (dT (wsD ws)) (st.set n (RmO a' b'))
def El (d : PyData) : Prop := Wd d ∧ ∃ l, wordOf d = AL.S l ∧ sm 60 l
def fEntry : DS := fun xs st Φ _ => ∃ n a b, xs = [.o n] ∧ st[n]? = some (RmO a b) ∧ ∀ ds a' b', ds.length ≤ 4 → (∀ d ∈ ds, El d) → Φ (dT ds) (st.set n (RmO a' b'))
theorem el_path {ws : List (List Nat)} (h1 : ws.length ≤ 5) (h2 : ∀ l ∈ ws, sm 8 l) : El (.tuple (wsD ws)) := by
  have e : (wsD ws).map strOf = ws.map AL.S := by unfold wsD; rw [List.map_map]; rfl
  have hs := sum_le (n := 8) fun l hl => (h2 l hl).1
  refine ⟨⟨fun d hd => ?_, ?_⟩, [47] ++ TL.joinL [47] ws, ?_, ?_⟩
  · unfold wsD at hd
    obtain ⟨l, _, rfl⟩ := List.mem_map.mp hd
    exact ⟨_, rfl⟩
  · have : (wsD ws).map (fun d => (strOf d).length) = ws.map List.length := by
      unfold wsD
      rw [List.map_map]
      exact List.map_congr_left fun l _ => TX.S_len l
    rw [this]
    unfold wsD
    rw [List.length_map]
    omega
  · show AL.S [47] ++ Txt.join (AL.S [47]) ((wsD ws).map strOf) = _
    rw [e, TX.join_S]
    exact SX.S_cat _ _
  · exact sm_mono (sm_app (n := 1) (m := 45) ⟨by decide, by decide⟩ (sm_join (k := 1) (n := 0) ⟨by decide, by decide⟩ (fun p hp => (h2 p hp).2) (by omega))) (by decide)
theorem el_str {l : List Nat} (h : sm 60 l) : El (.str (AL.S l)) := ⟨by show (AL.S l).length ≤ 100000; rw [TX.S_len]; have := h.1; omega, l, rfl, h⟩
theorem el_none : El .none := ⟨trivial, [45], rfl, by decide, by decide⟩
theorem el_int {i : Int} {l : List Nat} (h1 : i.natAbs.log2 < 1920) (h2 : wordOf (.int i) = AL.S l) (h : sm 60 l) : El (.int i) := ⟨h1, l, h2, h⟩
theorem w0 : wordOf (.int 0) = AL.S [48] := by decide +kernel
theorem el_0 : El (.int 0) := el_int (l := [48]) (by decide) (by decide +kernel) ⟨by decide, by decide⟩
theorem el_1 : El (.int 1) := el_int (l := [49]) (by decide) (by decide +kernel) ⟨by decide, by decide⟩
theorem el_12 : El (.int 12) := el_int (l := [49, 50]) (by decide) (by decide +kernel) ⟨by decide, by decide⟩
theorem el_5 : El (.int 5) := el_int (l := [53]) (by decide) (by decide +kernel) ⟨by decide, by decide⟩
theorem el_77 : El (.int 77) := el_int (l := [55, 55]) (by decide) (by decide +kernel) ⟨by decide, by decide⟩
theorem el_m3 : El (.int (-3)) := el_int (l := [45, 51]) (by decide) (by decide +kernel) ⟨by decide, by decide⟩
theorem el_m2 : El (.int (-2)) := el_int (l := [45, 50]) (by decide) (by decide +kernel) ⟨by decide, by decide⟩
theorem el_e12 : El (.int (10 ^ (12:Int).toNat)) := el_int (l := 49 :: List.replicate 12 48) (by decide +kernel) (by decide +kernel) ⟨by decide, by decide⟩
theorem el_e20 : El (.int (10 ^ (20:Int).toNat)) := el_int (l := 49 :: List.replicate 20 48) (by decide +kernel) (by decide +kernel) ⟨by decide, by decide⟩
section
variable {P : Program} {w : World} {K : PySem.W.Frag} {mg : Str → Option Value} {base : Heap} {f d C : Addr} {fd : FuncData} {a : Ads}
theorem sc_law_path : FnScope ["_law_room_here", "_law_turn"] ["_law_room_here"] (defScope (top 33)) := C8.fnScope_by (by decide +kernel)
theorem sc_law_entry : FnScope ["_law_room_here", "_law_one", "_law_other", "_law_number", "_law_more", "_law_end", "_law_some"] ["_law_room_here"] (defScope (top 34)) := C8.fnScope_by (by decide +kernel)
theorem at_in {α : Type} {xs : List α} {r : Int} (h0 : 0 ≤ r) (h1 : r < xs.length) : ∃ x, x ∈ xs ∧ atI xs r = some x := by
  have hlt : r.toNat < xs.length := by omega
  refine ⟨xs[r.toNat], List.getElem_mem hlt, ?_⟩
  unfold atI ixN
  rw [if_pos h0, if_pos h1]
  simp
/-- an item of a written list, at a drawn place -/
theorem wx_pick {b : Cf} {sl : Sl} {st : Sto} {ds : List PyData} {Φ : AV → Sto → Prop} {W : WX} {i n : Nat} {x y m : Int} {tl : TE} (hi : sl[i]? = some (some (.o n))) (hn : st[n]? = some (RmO x y)) (hl : ∀ st', Ev K tl sl st' (dL ds)) (hW : ErrOk K b W (fun _ _ _ => False)) (hm : m = ds.length) (hm0 : 0 < m ∧ m < 1000000)
    (k : ∀ d a' b', d ∈ ds → Φ (.d d) (st.set n (RmO a' b'))) : Wx K b (tOp (rIx K) tl (tCalW (spD K fTake) [] W (tCons (tVar i) (tCons (tC (.int m)) tNil)))) sl st Φ :=
  wx_op (wx_of (hl st) (wx_cal hW rnil (wa_of (ea_cons (ev_var hi) (ea_cons ev_i ea_nil)) ⟨n, x, y, m, rfl, hn, hm0, fun r a' b' h0 h1 => by
    obtain ⟨d, hd, ha⟩ := at_in (xs := ds) h0 (by omega)
    exact ⟨.d d, o_ixL ha, k d a' b' hd⟩⟩)))
theorem ok_law_path (B : BT mg) (F : Fn K "_law_path" 33 f fd) (c__law_take : DefD P w K mg base 1 "_law_take" fTake) : FnOk P w K mg base (L2.CX P w) 2 f fd ["_law_room_here"] (spD K fPath) := by
  refine fn_D F sc_law_path (fun xs st Φ Ψ h => ?_) (fun cdv A outer s H E hr => ⟨_, (pss_one (ps_ret (x_tuple (K := K) B (pe_lc (own := [("_law_turn", 1)]) (g := gName 1) (tt := tYes) rfl sc_law_path.nd (x_rng1 B (pe_f c__law_take hr takesD (pa_cons (pv 0) (pa_cons pe_int pa_nil)))) (blkOk_by (N := ["_law_room_here", "_law_turn"]) (sc := defScope (top 33)) (by decide +kernel)) (fun _ _ _ _ _ => pg_name (i := 1) sc_law_path.nd rfl (Or.inl rfl)) (fun _ _ _ _ _ => pts_nil) (fun _ _ _ _ _ => (x_ix (K := K) (pe_lst (pa_cons pe_str (pa_cons pe_str (pa_cons pe_str pa_nil)))) (pe_f c__law_take hr takes0 (pa_cons (pv 0) (pa_cons pe_int pa_nil))))))))), fun b xs st Φ Ψ h hW => ?_⟩)
  · obtain ⟨_, _, _, rfl, _⟩ := h
    rfl
  · obtain ⟨n, x, y, rfl, hn, k⟩ := h
    refine ws_ret (wx_cb (wa_cons (wx_lc (wi_rng1 (wa_cons (wx_cal (G := fun _ _ _ => False) (fun _ _ _ _ _ _ _ _ _ _ k => k.elim) rnil (wa_of (ea_cons (ev_var rfl) (ea_cons ev_i ea_nil)) ⟨n, x, y, 6, rfl, hn, by decide, fun r a' b' h0 h1 => ?_⟩)))) )))
    refine wa_nil ⟨r, rfl, by omega, by rw [List.length_map, List.length_range]; omega, fun i acc st2 => ∃ ws a' b', acc = wsD ws ∧ ws.length = i ∧ (∀ l ∈ ws, sm 8 l) ∧ st2 = st.set n (RmO a' b'), ⟨[], a', b', rfl, rfl, fun _ h => (nomatch h), rfl⟩, ?_, ?_⟩
    · rintro i z acc st2 hz ⟨ws, a1, b1, rfl, hl, hs, rfl⟩ hacc
      refine ⟨_, [1], by decide, eg_name, fun b' => ?_⟩
      have hn1 := set_get (o' := RmO a1 b1) hn
      refine wx_pick (i := 0) (ds := wsD SHORT) rfl hn1 (fun st' => ev_lst (ds := wsD SHORT) (ea_cons ev_s (ea_cons ev_s (ea_cons ev_s ea_nil))) (by decide)) hW0 rfl (by decide) fun d a2 b2 hd => ?_
      unfold wsD at hd
      obtain ⟨l, hl2, rfl⟩ := List.mem_map.mp hd
      refine ⟨_, rfl, ws ++ [l], a2, b2, by unfold wsD; rw [List.map_append]; rfl, by rw [List.length_append]; simp [hl], fun q hq => ?_, by rw [List.set_set]⟩
      rcases List.mem_append.mp hq with h | h
      · exact hs q h
      · rw [List.mem_singleton.mp h]
        have : ∀ l ∈ SHORT, sm 8 l := by unfold sm; decide
        exact this l hl2
    · rintro acc st2 ⟨ws, a1, b1, rfl, hl, hs, rfl⟩
      rw [List.length_map, List.length_range] at hl
      exact wa_nil ⟨_, o_tupL, k ws a1 b1 (by omega) hs⟩
theorem ok_law_entry (B : BT mg) (F : Fn K "_law_entry" 34 f fd) (c__law_take : DefD P w K mg base 1 "_law_take" fTake) (c__law_path : DefD P w K mg base 2 "_law_path" fPath) : FnOk P w K mg base (L2.CX P w) 3 f fd ["_law_room_here"] (spD K fEntry) := by
  refine fn_D F sc_law_entry (fun xs st Φ Ψ h => ?_) (fun cdv A outer s H E hr => ⟨_, (pss_cons (ps_par (i := 1) (j := 2) rfl sc_law_entry.nd rfl rfl (by decide) rfl rfl (pa_cons (pe_f c__law_path hr takesD (pa_cons (pv 0) pa_nil)) (pa_cons (pe_f c__law_path hr takesD (pa_cons (pv 0) pa_nil)) pa_nil)) rfl)
      (pss_cons (ps_par (i := 3) (j := 4) rfl sc_law_entry.nd rfl rfl (by decide) rfl rfl (pa_cons (x_ix (K := K) (pe_lst (pa_cons pe_int (pa_cons pe_int (pa_cons pe_int (pa_cons (x_pow pe_int pe_int) pa_nil))))) (pe_f c__law_take hr takesD (pa_cons (pv 0) (pa_cons pe_int pa_nil)))) (pa_cons (x_ix (K := K) (pe_lst (pa_cons pe_int (pa_cons pe_int (pa_cons (x_neg pe_int) (pa_cons (x_pow pe_int pe_int) pa_nil))))) (pe_f c__law_take hr takesD (pa_cons (pv 0) (pa_cons pe_int pa_nil)))) pa_nil)) rfl)
      (pss_cons (ps_set (i := 5) sc_law_entry.nd rfl (Or.inl rfl) (x_ix (K := K) (pe_lst (pa_cons pe_non (pa_cons pe_int (pa_cons pe_int (pa_cons (x_neg pe_int) pa_nil))))) (pe_f c__law_take hr takesD (pa_cons (pv 0) (pa_cons pe_int pa_nil)))))
      (pss_cons (ps_set (i := 6) sc_law_entry.nd rfl (Or.inl rfl) (pe_lst (pa_cons (pe_tup (pa_cons pe_str (pa_cons (pv 1) pa_nil))) (pa_cons (pe_tup (pa_cons pe_str (pa_cons (pv 1) pa_nil))) (pa_cons (pe_tup (pa_cons pe_str (pa_cons (pv 1) (pa_cons (pv 2) pa_nil)))) (pa_cons (pe_tup (pa_cons pe_str (pa_cons (pv 1) (pa_cons (pv 2) pa_nil)))) (pa_cons (pe_tup (pa_cons pe_str (pa_cons (pv 1) (pa_cons (pv 4) pa_nil)))) pa_nil)))))))
      (pss_cons (ps_set (i := 6) sc_law_entry.nd rfl (Or.inl rfl) (x_add (K := K) (pv 6) (pe_lst (pa_cons (pe_tup (pa_cons pe_str (pa_cons (pv 3) (pa_cons (pv 1) pa_nil)))) (pa_cons (pe_tup (pa_cons pe_str (pa_cons (pv 3) pa_nil))) (pa_cons (pe_tup (pa_cons pe_str (pa_cons (pv 3) pa_nil))) (pa_cons (pe_tup (pa_cons pe_str (pa_cons (pv 1) (pa_cons (pv 3) pa_nil)))) pa_nil)))))))
      (pss_cons (ps_set (i := 6) sc_law_entry.nd rfl (Or.inl rfl) (x_add (K := K) (pv 6) (pe_lst (pa_cons (pe_tup (pa_cons pe_str (pa_cons (pv 1) (pa_cons (pv 3) (pa_cons (pv 4) pa_nil))))) (pa_cons (pe_tup (pa_cons pe_str (pa_cons (pv 3) (pa_cons (pv 4) (pa_cons (pv 5) pa_nil))))) (pa_cons (pe_tup (pa_cons pe_str (pa_cons (pv 3) (pa_cons (pv 4) (pa_cons (pv 5) pa_nil))))) pa_nil))))))
      (pss_one (ps_ret (x_ix (K := K) (pv 6) (pe_f c__law_take hr takesD (pa_cons (pv 0) (pa_cons pe_int pa_nil)))))))))))), fun b xs st Φ Ψ h hW => ?_⟩)
  · obtain ⟨_, _, _, rfl, _⟩ := h
    rfl
  · obtain ⟨n, x, y, rfl, hn, k⟩ := h
    have hF : ErrOk K b (fun cls d _ H => E cls d H) (fun _ _ _ => False) := fun _ _ _ _ _ _ _ _ _ _ k => k.elim
    refine ws_sq (ws_par (wa_cons (wx_cal hF rnil (wa_of (ea_cons (ev_var rfl) ea_nil) ⟨n, x, y, rfl, hn, fun w1 x1 y1 l1 s1 => ?_⟩))))
    have hn1 := set_get (o' := RmO x1 y1) hn
    refine wa_cons (wx_cal hF rnil (wa_of (ea_cons (ev_var rfl) ea_nil) ⟨n, x1, y1, rfl, hn1, fun w2 x2 y2 l2 s2 => ?_⟩))
    rw [List.set_set]
    have hn2 := set_get (o' := RmO x2 y2) hn
    refine wa_nil ⟨_, _, rfl, ?_⟩
    refine ws_sq (ws_par (wa_cons (wx_pick (i := 0) (ds := [.int 0, .int 1, .int 12, .int (10 ^ (12:Int).toNat)]) rfl hn2 (fun st' => ev_lst (ea_cons ev_i (ea_cons ev_i (ea_cons ev_i (ea_cons (ev_op ev_i ev_i (o_IC ⟨by decide, by decide, by decide⟩)) ea_nil)))) (by decide)) hF rfl (by decide) fun d3 x3 y3 hd3 => ?_)))
    rw [List.set_set]
    have hn3 := set_get (o' := RmO x3 y3) hn
    refine wa_cons (wx_pick (i := 0) (ds := [.int 0, .int 5, .int (-3), .int (10 ^ (20:Int).toNat)]) rfl hn3 (fun st' => ev_lst (ea_cons ev_i (ea_cons ev_i (ea_cons (ev_neg ev_i) (ea_cons (ev_op ev_i ev_i (o_IC ⟨by decide, by decide, by decide⟩)) ea_nil)))) (by decide)) hF rfl (by decide) fun d4 x4 y4 hd4 => ?_)
    rw [List.set_set]
    have hn4 := set_get (o' := RmO x4 y4) hn
    refine wa_nil ⟨_, _, rfl, ?_⟩
    refine ws_sq (ws_asg (wx_pick (i := 0) (ds := [.none, .int 0, .int 77, .int (-2)]) rfl hn4 (fun st' => ev_lst (ea_cons ev_n (ea_cons ev_i (ea_cons ev_i (ea_cons (ev_neg ev_i) ea_nil)))) (by decide)) hF rfl (by decide) fun d5 x5 y5 hd5 => ?_))
    rw [List.set_set]
    have hn5 := set_get (o' := RmO x5 y5) hn
    have p1 := el_path l1 s1
    have p2 := el_path l2 s2
    have e3 : El d3 := by
      simp only [List.mem_cons, List.not_mem_nil, or_false] at hd3
      rcases hd3 with rfl | rfl | rfl | rfl
      · exact el_0
      · exact el_1
      · exact el_12
      · exact el_e12
    have e4 : El d4 := by
      simp only [List.mem_cons, List.not_mem_nil, or_false] at hd4
      rcases hd4 with rfl | rfl | rfl | rfl
      · exact el_0
      · exact el_5
      · exact el_m3
      · exact el_e20
    have e5 : El d5 := by
      simp only [List.mem_cons, List.not_mem_nil, or_false] at hd5
      rcases hd5 with rfl | rfl | rfl | rfl
      · exact el_none
      · exact el_0
      · exact el_77
      · exact el_m2
    have ew : ∀ l ∈ [[109, 97, 107, 101], [102, 111, 108, 100, 101, 114], [109, 111, 118, 101], [99, 111, 112, 121], [100, 114, 111, 112], [98, 114, 105, 110, 103], [99, 108, 101, 97, 114], [110, 117, 109, 98, 101, 114], [112, 105, 101, 99, 101], [111, 119, 110], [114, 97, 105, 115, 101], [101, 100, 105, 116, 105, 111, 110]], El (.str (AL.S l)) := fun l hl => el_str (by
      have : ∀ l ∈ [[109, 97, 107, 101], [102, 111, 108, 100, 101, 114], [109, 111, 118, 101], [99, 111, 112, 121], [100, 114, 111, 112], [98, 114, 105, 110, 103], [99, 108, 101, 97, 114], [110, 117, 109, 98, 101, 114], [112, 105, 101, 99, 101], [111, 119, 110], [114, 97, 105, 115, 101], [101, 100, 105, 116, 105, 111, 110]], sm 60 l := by unfold sm; decide
      exact this l hl)
    have m : ∀ (l : List Nat) (ds : List PyData), El (.str (AL.S l)) → (∀ d ∈ ds, El d) → ∀ d ∈ PyData.str (AL.S l) :: ds, El d := fun l ds h g d hd => by
      rcases List.mem_cons.mp hd with rfl | hd
      · exact h
      · exact g d hd
    generalize wsD w1 = W1 at *
    generalize wsD w2 = W2 at *
    let es1 : List (List PyData) := [[.str "make", .tuple W1], [.str "folder", .tuple W1], [.str "move", .tuple W1, .tuple W2], [.str "copy", .tuple W1, .tuple W2], [.str "drop", .tuple W1, d4]]
    let es2 : List (List PyData) := [[.str "bring", d3, .tuple W1], [.str "clear", d3], [.str "number", d3], [.str "piece", .tuple W1, d3]]
    let es3 : List (List PyData) := [[.str "own", .tuple W1, d3, d4], [.str "raise", d3, d4, d5], [.str "edition", d3, d4, d5]]
    let tl (es : List (List PyData)) : List PyData := es.map PyData.tuple
    refine ws_asgS (x := dL (tl es1)) (ev_lst (ds := tl es1) (ea_cons (ev_tup (ds := [_, _]) (ea_cons ev_s (ea_cons (ev_var rfl) ea_nil)) (Nat.le_of_ble_eq_true rfl)) (ea_cons (ev_tup (ds := [_, _]) (ea_cons ev_s (ea_cons (ev_var rfl) ea_nil)) (Nat.le_of_ble_eq_true rfl)) (ea_cons (ev_tup (ds := [_, _, _]) (ea_cons ev_s (ea_cons (ev_var rfl) (ea_cons (ev_var rfl) ea_nil))) (Nat.le_of_ble_eq_true rfl)) (ea_cons (ev_tup (ds := [_, _, _]) (ea_cons ev_s (ea_cons (ev_var rfl) (ea_cons (ev_var rfl) ea_nil))) (Nat.le_of_ble_eq_true rfl)) (ea_cons (ev_tup (ds := [_, _, _]) (ea_cons ev_s (ea_cons (ev_var rfl) (ea_cons (ev_var rfl) ea_nil))) (Nat.le_of_ble_eq_true rfl)) ea_nil))))) (Nat.le_of_ble_eq_true rfl)) ?_
    refine ws_asgS (x := dL (tl es1 ++ tl es2)) (ev_op (ev_var rfl) (ev_lst (ds := tl es2) (ea_cons (ev_tup (ds := [_, _, _]) (ea_cons ev_s (ea_cons (ev_var rfl) (ea_cons (ev_var rfl) ea_nil))) (Nat.le_of_ble_eq_true rfl)) (ea_cons (ev_tup (ds := [_, _]) (ea_cons ev_s (ea_cons (ev_var rfl) ea_nil)) (Nat.le_of_ble_eq_true rfl)) (ea_cons (ev_tup (ds := [_, _]) (ea_cons ev_s (ea_cons (ev_var rfl) ea_nil)) (Nat.le_of_ble_eq_true rfl)) (ea_cons (ev_tup (ds := [_, _, _]) (ea_cons ev_s (ea_cons (ev_var rfl) (ea_cons (ev_var rfl) ea_nil))) (Nat.le_of_ble_eq_true rfl)) ea_nil)))) (Nat.le_of_ble_eq_true rfl)) (o_addL (Nat.le_of_ble_eq_true rfl))) ?_
    refine ws_asgS (x := dL (tl es1 ++ tl es2 ++ tl es3)) (ev_op (ev_var rfl) (ev_lst (ds := tl es3) (ea_cons (ev_tup (ds := [_, _, _, _]) (ea_cons ev_s (ea_cons (ev_var rfl) (ea_cons (ev_var rfl) (ea_cons (ev_var rfl) ea_nil)))) (Nat.le_of_ble_eq_true rfl)) (ea_cons (ev_tup (ds := [_, _, _, _]) (ea_cons ev_s (ea_cons (ev_var rfl) (ea_cons (ev_var rfl) (ea_cons (ev_var rfl) ea_nil)))) (Nat.le_of_ble_eq_true rfl)) (ea_cons (ev_tup (ds := [_, _, _, _]) (ea_cons ev_s (ea_cons (ev_var rfl) (ea_cons (ev_var rfl) (ea_cons (ev_var rfl) ea_nil)))) (Nat.le_of_ble_eq_true rfl)) ea_nil))) (Nat.le_of_ble_eq_true rfl)) (o_addL (Nat.le_of_ble_eq_true rfl))) ?_
    refine ws_ret (wx_pick (i := 0) (ds := tl es1 ++ tl es2 ++ tl es3) rfl hn5 (fun st' => ev_var rfl) hF rfl (by decide) fun d6 x6 y6 hd6 => ?_)
    rw [List.set_set]
    have hall : ∀ ds ∈ es1 ++ es2 ++ es3, ds.length ≤ 4 ∧ ∀ d ∈ ds, El d := by
      have q : ∀ (l : List Nat), l ∈ [[109, 97, 107, 101], [102, 111, 108, 100, 101, 114], [109, 111, 118, 101], [99, 111, 112, 121], [100, 114, 111, 112], [98, 114, 105, 110, 103], [99, 108, 101, 97, 114], [110, 117, 109, 98, 101, 114], [112, 105, 101, 99, 101], [111, 119, 110], [114, 97, 105, 115, 101], [101, 100, 105, 116, 105, 111, 110]] → ∀ ds : List PyData, (∀ d ∈ ds, d = .tuple W1 ∨ d = .tuple W2 ∨ d = d3 ∨ d = d4 ∨ d = d5) → ∀ d ∈ PyData.str (AL.S l) :: ds, El d := fun l hl ds g => m l ds (ew l hl) fun d hd => by
        rcases g d hd with rfl | rfl | rfl | rfl | rfl
        · exact p1
        · exact p2
        · exact e3
        · exact e4
        · exact e5
      intro ds hds
      simp only [es1, es2, es3, List.cons_append, List.nil_append, List.mem_cons, List.not_mem_nil, or_false] at hds
      rcases hds with rfl | rfl | rfl | rfl | rfl | rfl | rfl | rfl | rfl | rfl | rfl | rfl
      · exact ⟨by simp, q [109, 97, 107, 101] (by decide) _ (by simp)⟩
      · exact ⟨by simp, q [102, 111, 108, 100, 101, 114] (by decide) _ (by simp)⟩
      · exact ⟨by simp, q [109, 111, 118, 101] (by decide) _ (by simp)⟩
      · exact ⟨by simp, q [99, 111, 112, 121] (by decide) _ (by simp)⟩
      · exact ⟨by simp, q [100, 114, 111, 112] (by decide) _ (by simp)⟩
      · exact ⟨by simp, q [98, 114, 105, 110, 103] (by decide) _ (by simp)⟩
      · exact ⟨by simp, q [99, 108, 101, 97, 114] (by decide) _ (by simp)⟩
      · exact ⟨by simp, q [110, 117, 109, 98, 101, 114] (by decide) _ (by simp)⟩
      · exact ⟨by simp, q [112, 105, 101, 99, 101] (by decide) _ (by simp)⟩
      · exact ⟨by simp, q [111, 119, 110] (by decide) _ (by simp)⟩
      · exact ⟨by simp, q [114, 97, 105, 115, 101] (by decide) _ (by simp)⟩
      · exact ⟨by simp, q [101, 100, 105, 116, 105, 111, 110] (by decide) _ (by simp)⟩
    have : tl es1 ++ tl es2 ++ tl es3 = tl (es1 ++ es2 ++ es3) := by simp [tl]
    rw [this] at hd6
    obtain ⟨ds, hds, rfl⟩ := List.mem_map.mp hd6
    exact k ds x6 y6 (hall ds hds).1 (hall ds hds).2
end
end K68

set_option Elab.async false
set_option linter.all false
set_option maxRecDepth 100000
set_option maxHeartbeats 4000000
namespace K68
open PySem PySem.Spec PyProof.Rows L2 AL
open TX (Fl okZ cut)
theorem cutD_to {xs : List PyData} {i : Int} (h : 0 ≤ i) : AL.cutD xs none (some i) = xs.take i.toNat := by
  unfold AL.cutD HT.sIx
  simp only [List.drop_zero, Nat.sub_zero]
  rw [if_neg (by omega)]
  by_cases hl : i.toNat ≤ xs.length
  · congr 1
    omega
  · rw [List.take_of_length_le (by omega), List.take_of_length_le (by omega)]
theorem cutD_from {xs : List PyData} {i : Int} (h : 0 ≤ i) : AL.cutD xs (some i) none = xs.drop i.toNat := by
  show (xs.drop (if i < 0 then (i + (xs.length : Int)).toNat else min i.toNat xs.length)).take (xs.length - (if i < 0 then (i + (xs.length : Int)).toNat else min i.toNat xs.length)) = _
  rw [if_neg (by omega)]
  by_cases hl : i.toNat ≤ xs.length
  · rw [Nat.min_eq_left hl, List.take_of_length_le (by rw [List.length_drop]; omega)]
  · rw [List.drop_of_length_le (by omega : xs.length ≤ i.toNat), List.drop_of_length_le (by omega)]
    simp
def fBent : DS := fun xs st Φ _ => ∃ n a b l, xs = [.o n, dS (AL.S l)] ∧ st[n]? = some (RmO a b) ∧ sm 1500 l ∧ ∀ l' a' b', sm 5000 l' → Φ (dS (AL.S l')) (st.set n (RmO a' b'))
theorem sm_cut {c n : Nat} {l : List Nat} (h : sm n l) : ∀ p ∈ cut c l, ∀ x ∈ p, x < 128 := fun p hp x hx => h.2 x (TX.cut_mem c l p hp x hx)
theorem sum_take {ws : List (List Nat)} (i : Nat) : ((ws.take i).map List.length).sum + ((ws.drop i).map List.length).sum = (ws.map List.length).sum := by
  conv => rhs; rw [← List.take_append_drop i ws]
  rw [List.map_append, List.sum_append]
theorem sum_drop {ws : List (List Nat)} (i : Nat) : ((ws.drop (i + 1)).map List.length).sum ≤ ((ws.drop i).map List.length).sum := by
  have : ws.drop (i + 1) = (ws.drop i).drop 1 := by rw [List.drop_drop]
  rw [this]
  cases ws.drop i with
  | nil => simp
  | cons p r => simp
theorem sm_put {l : List Nat} {i : Nat} {x : List (List Nat)} (h : sm 1500 l) (hx : ∀ p ∈ x, sm 60 p) (hl : x.length ≤ 1) : sm 5000 (TL.joinL [32] ((cut 32 l).take i ++ x ++ (cut 32 l).drop (i + 1))) := by
  refine sm_join (k := 1) (n := 0) ⟨by decide, by decide⟩ (fun p hp => ?_) ?_
  · rcases List.mem_append.mp hp with q | q
    · rcases List.mem_append.mp q with q | q
      · exact sm_cut h p (List.mem_of_mem_take q)
      · exact (hx p q).2
    · exact sm_cut h p (List.mem_of_mem_drop q)
  · have h1 := TX.cut_sum 32 l
    have h2 := sum_take (ws := cut 32 l) i
    have h3 := sum_drop (ws := cut 32 l) i
    have h4 := sum_le (ps := x) (n := 60) fun p hp => (hx p hp).1
    have h5 := h.1
    rw [List.map_append, List.map_append, List.sum_append, List.sum_append, List.length_append, List.length_append, List.length_take, List.length_drop]
    omega
theorem rowsD_app (a b : List (List Nat)) : rowsD a ++ rowsD b = rowsD (a ++ b) := by unfold rowsD; rw [List.map_append]
theorem rowsD_take (a : List (List Nat)) (i : Nat) : (rowsD a).take i = rowsD (a.take i) := by unfold rowsD; rw [List.map_take]
theorem rowsD_drop (a : List (List Nat)) (i : Nat) : (rowsD a).drop i = rowsD (a.drop i) := by unfold rowsD; rw [List.map_drop]
theorem rowsD_len (a : List (List Nat)) : (rowsD a).length = a.length := by unfold rowsD; rw [List.length_map]
theorem rowsD_S (a : List (List Nat)) : rowsD a = (a.map AL.S).map PyData.str := by unfold rowsD; rw [List.map_map]; rfl
def SIGNS : List Nat := [32, 47, 45, 48, 97, 49, 10, 65, 126, 46]
def ODD : List (List Nat) := [[], [47], [47, 47], [47, 97, 47, 47, 98], [47, 65], [48, 49], [45, 48], [45, 45, 49], [45], [109, 97, 107, 101], List.replicate 31 49, [47, 97, 47, 98, 47, 99, 47, 100, 47, 101, 47, 102]]
def ODD2 : List (List Nat) := [[47, 97, 98, 99, 100, 101, 102, 103, 104, 105], [43, 49], [49, 46, 48]]
section
variable {P : Program} {w : World} {K : PySem.W.Frag} {mg : Str → Option Value} {base : Heap} {f d C : Addr} {fd : FuncData} {a : Ads}
theorem sc_law_bent : FnScope ["_law_room_here", "_law_line", "_law_at", "_law_sign", "_law_words", "_law_spot", "_law_odd", "_law_more"] ["_law_room_here", "_law_line"] (defScope (top 39)) := C8.fnScope_by (by decide +kernel)
/-- sep.join of rows -/
theorem ev_joinR {sl : Sl} {st : Sto} {te : TE} {ws : List (List Nat)} (h : Ev K te sl st (dL (rowsD ws))) (hw : (ws.map List.length).sum + ws.length * 1 ≤ 100000) : Ev K (tBM K "str" (rJOIN K) (tC (.str " ")) (tCons te tNil)) sl st (dS (AL.S (TL.joinL [32] ws))) := by
  rw [rowsD_S] at h
  have := ev_bm (K := K) (ev_s (z := AL.S [32])) (ea_cons h ea_nil) (o_joinL (a := AL.S [32]) (ys := ws.map AL.S) (by rw [TX.S_len, List.length_map, TX.lens]; exact Nat.le_trans hw (by decide)))
  rw [TX.join_S] at this
  exact this
theorem ev_to {sl : Sl} {st : Sto} {te ti : TE} {l : List Nat} {i : Int} (h : Ev K te sl st (dS (AL.S l))) (hi : Ev K ti sl st (dI i)) (h0 : 0 ≤ i) (hl : l.length ≤ 20000) : Ev K (tSl (rSL K) te tNoPart (tPart ti)) sl st (dS (AL.S (l.take i.toNat))) := by
  have := ev_sl (r := rSL K) h eo_none (eo_some hi) (o_slS (lo := none) (hi := some i) (by rw [TX.S_len]; omega))
  rw [SX.slice_to h0] at this
  exact this
theorem ev_from {sl : Sl} {st : Sto} {te ti : TE} {l : List Nat} {i : Int} (h : Ev K te sl st (dS (AL.S l))) (hi : Ev K ti sl st (dI i)) (h0 : 0 ≤ i) (hl : l.length ≤ 20000) : Ev K (tSl (rSL K) te (tPart ti) tNoPart) sl st (dS (AL.S (l.drop i.toNat))) := by
  have := ev_sl (r := rSL K) h (eo_some hi) eo_none (o_slS (lo := some i) (hi := none) (by rw [TX.S_len]; omega))
  rw [SX.slice_from h0] at this
  exact this
theorem ev_catS {sl : Sl} {st : Sto} {ta tb : TE} {l m : List Nat} (h : Ev K ta sl st (dS (AL.S l))) (h2 : Ev K tb sl st (dS (AL.S m))) (hl : l.length ≤ 20000) (hm : m.length ≤ 20000) : Ev K (tOp (rADD K) ta tb) sl st (dS (AL.S (l ++ m))) := by
  have := ev_op (K := K) h h2 (o_addS (by rw [TX.S_len, TX.S_len]; omega))
  rw [SX.S_cat] at this
  exact this
theorem ok_law_bent (B : BT mg) (F : Fn K "_law_bent" 39 f fd) (c__law_take : DefD P w K mg base 1 "_law_take" fTake) : FnOk P w K mg base (L2.CX P w) 2 f fd ["_law_room_here", "_law_line"] (spD K fBent) := by
  refine fn_D F sc_law_bent (fun xs st Φ Ψ h => ?_) (fun cdv A outer s H E hr => ⟨_, (pss_cons (ps_set (i := 2) sc_law_bent.nd rfl (Or.inl rfl) (pe_f c__law_take hr takesD (pa_cons (pv 0) (pa_cons (x_add (K := K) (x_len (K := K) B (pv 1)) pe_int) pa_nil))))
      (pss_cons (ps_set (i := 3) sc_law_bent.nd rfl (Or.inl rfl) (x_ix (K := K) pe_str (pe_f c__law_take hr takesD (pa_cons (pv 0) (pa_cons pe_int pa_nil)))))
      (pss_cons (ps_set (i := 4) sc_law_bent.nd rfl (Or.inl rfl) (x_split (K := K) (pv 1) (pa_cons pe_str pa_nil)))
      (pss_cons (ps_set (i := 5) sc_law_bent.nd rfl (Or.inl rfl) (pe_f c__law_take hr takesD (pa_cons (pv 0) (pa_cons (x_len (K := K) B (pv 4)) pa_nil))))
      (pss_cons (ps_set (i := 6) sc_law_bent.nd rfl (Or.inl rfl) (pe_lst (pa_cons pe_str (pa_cons pe_str (pa_cons pe_str (pa_cons pe_str (pa_cons pe_str (pa_cons pe_str (pa_cons pe_str (pa_cons pe_str (pa_cons pe_str (pa_cons pe_str (pa_cons (x_mul pe_str pe_int) (pa_cons pe_str pa_nil))))))))))))))
      (pss_cons (ps_set (i := 6) sc_law_bent.nd rfl (Or.inl rfl) (x_add (K := K) (pv 6) (pe_lst (pa_cons pe_str (pa_cons pe_str (pa_cons pe_str pa_nil))))))
      (pss_cons (ps_set (i := 7) sc_law_bent.nd rfl (Or.inl rfl) (pe_lst (pa_cons (x_join (K := K) pe_str (pa_cons (x_add (K := K) (x_add (K := K) (x_sl (K := K) (pv 4) po_none (po_some (pv 5))) (pe_lst (pa_cons (x_ix (K := K) (pv 6) (pe_f c__law_take hr takesD (pa_cons (pv 0) (pa_cons pe_int pa_nil)))) pa_nil))) (x_sl (K := K) (pv 4) (po_some (x_add (K := K) (pv 5) pe_int)) po_none)) pa_nil)) pa_nil)))
      (pss_cons (ps_set (i := 7) sc_law_bent.nd rfl (Or.inl rfl) (x_add (K := K) (pv 7) (pe_lst (pa_cons (x_add (K := K) (x_add (K := K) (x_sl (K := K) (pv 1) po_none (po_some (pv 2))) (pv 3)) (x_sl (K := K) (pv 1) (po_some (pv 2)) po_none)) (pa_cons (x_add (K := K) (x_sl (K := K) (pv 1) po_none (po_some (pv 2))) (x_sl (K := K) (pv 1) (po_some (x_add (K := K) (pv 2) pe_int)) po_none)) (pa_cons (x_add (K := K) (x_add (K := K) (x_sl (K := K) (pv 1) po_none (po_some (pv 2))) (pv 3)) (x_sl (K := K) (pv 1) (po_some (x_add (K := K) (pv 2) pe_int)) po_none)) (pa_cons (x_sl (K := K) (pv 1) po_none (po_some (pv 2))) pa_nil)))))))
      (pss_one (ps_ret (x_ix (K := K) (x_add (K := K) (pv 7) (pe_lst (pa_cons (x_join (K := K) pe_str (pa_cons (x_add (K := K) (x_sl (K := K) (pv 4) po_none (po_some (pv 5))) (x_sl (K := K) (pv 4) (po_some (x_add (K := K) (pv 5) pe_int)) po_none)) pa_nil)) (pa_cons (x_add (K := K) (pv 1) (x_sl (K := K) (pv 1) po_none (po_some (pv 2)))) pa_nil)))) (pe_f c__law_take hr takesD (pa_cons (pv 0) (pa_cons pe_int pa_nil)))))))))))))), fun b xs st Φ Ψ h hW => ?_⟩)
  · obtain ⟨_, _, _, _, rfl, _⟩ := h
    rfl
  · obtain ⟨n, x, y, l, rfl, hn, hl, k⟩ := h
    have hF : ErrOk K b (fun cls d _ H => E cls d H) (fun _ _ _ => False) := fun _ _ _ _ _ _ _ _ _ _ k => k.elim
    have hll : l.length ≤ 1500 := hl.1
    have hlS : (AL.S l).length = l.length := TX.S_len l
    refine ws_sq (ws_asg (wx_cal hF rnil (wa_of (ea_cons (ev_var rfl) (ea_cons (ev_op (ev_lenS (z := AL.S l) (ev_var rfl) (by omega)) ev_i o_addI) ea_nil)) ⟨n, x, y, _, rfl, hn, by omega, fun i x1 y1 hi0 hi1 => ?_⟩)))
    have hn1 := set_get (o' := RmO x1 y1) hn
    refine ws_sq (ws_asg (wx_op (wx_of (ev_s (z := AL.S SIGNS)) (wx_cal hF rnil (wa_of (ea_cons (ev_var rfl) (ea_cons ev_i ea_nil)) ⟨n, x1, y1, 10, rfl, hn1, by decide, fun r x2 y2 hr0 hr1 => ?_⟩)))))
    obtain ⟨c, hc, hat⟩ := at_in (xs := SIGNS) hr0 hr1
    refine ⟨dS (AL.S [c]), o_ixS (z := AL.S SIGNS) (by decide) hat, ?_⟩
    rw [List.set_set]
    have hc' : c < 128 := by
      have : ∀ c ∈ SIGNS, c < 128 := by decide
      exact this c hc
    have hn2 := set_get (o' := RmO x2 y2) hn
    have es : Ev K (tBM K "str" rSPLIT (tVar 1) (tCons (tC (.str " ")) tNil)) [some (.o n), some (dS (AL.S l)), some (dI i), some (dS (AL.S [c])), none, none, none, none] (st.set n (RmO x2 y2)) (dL (rowsD (cut 32 l))) := by
      have := ev_bm (K := K) (ev_var (sl := [some (.o n), some (dS (AL.S l)), some (dI i), some (dS (AL.S [c])), none, none, none, none]) (i := 1) rfl) (ea_cons (ev_s (z := AL.S [32])) ea_nil) (o_split (K := K) (st := st.set n (RmO x2 y2)) (a := AL.S l) (b := AL.S [32]) rfl (by omega))
      rw [TX.split_cut (by decide), List.map_map] at this
      exact this
    refine ws_asgS es ?_
    have hw0 : 0 < (cut 32 l).length := List.length_pos_iff.mpr (TX.cut_ne 32 l)
    have hw1 := TX.cut_len 32 l
    refine ws_sq (ws_asg (wx_cal hF rnil (wa_of (ea_cons (ev_var rfl) (ea_cons (ev_lenL (xs := rowsD (cut 32 l)) (ev_var rfl)) ea_nil)) ⟨n, x2, y2, _, rfl, hn2, by rw [rowsD_len]; omega, fun j x3 y3 hj0 hj1 => ?_⟩)))
    rw [List.set_set]
    have hn3 := set_get (o' := RmO x3 y3) hn
    have e31 : Txt.mul (AL.S [49]) ((31 : Nat) : Int) = AL.S (List.replicate 31 49) := by decide +kernel
    refine ws_asgS (x := dL (rowsD ODD)) (ev_lst (ds := rowsD ODD) (ea_cons ev_s (ea_cons ev_s (ea_cons ev_s (ea_cons ev_s (ea_cons ev_s (ea_cons ev_s (ea_cons ev_s (ea_cons ev_s (ea_cons ev_s (ea_cons ev_s (ea_cons (ev_is (ev_op (ev_s (z := AL.S [49])) (ev_i (i := 31)) (o_mulS (z := AL.S [49]) (n := 31) (by decide) (by decide))) (by rw [e31])) (ea_cons ev_s ea_nil)))))))))))) (by decide)) ?_
    refine ws_asgS (x := dL (rowsD (ODD ++ ODD2))) (ev_is (ev_op (ev_var rfl) (ev_lst (ds := rowsD ODD2) (ea_cons ev_s (ea_cons ev_s (ea_cons ev_s ea_nil))) (by decide)) (o_addL (by decide))) (by rw [rowsD_app])) ?_
    let sl5 : Sl := [some (.o n), some (dS (AL.S l)), some (dI i), some (dS (AL.S [c])), some (dL (rowsD (cut 32 l))), some (dI j), some (dL (rowsD (ODD ++ ODD2))), none]
    have eL : ∀ st' : Sto, Ev K (tSl (rSL K) (tVar 4) tNoPart (tPart (tVar 5))) sl5 st' (dL (rowsD ((cut 32 l).take j.toNat))) := fun st' => by
      have := ev_sl (r := rSL K) (K := K) (st := st') (ev_var (sl := sl5) (i := 4) rfl) eo_none (eo_some (ev_var (i := 5) rfl)) o_slL
      rw [cutD_to hj0, rowsD_take] at this
      exact this
    have eR : ∀ (st' : Sto) (z : Option AV), Ev K (tSl (rSL K) (tVar 4) (tPart (tOp (rADD K) (tVar 5) (tC (.int 1)))) tNoPart) (sl5.set 7 z) st' (dL (rowsD ((cut 32 l).drop (j.toNat + 1)))) := fun st' z => by
      have := ev_sl (r := rSL K) (K := K) (st := st') (ev_var (sl := sl5.set 7 z) (i := 4) rfl) (eo_some (ev_op (ev_var (i := 5) rfl) (ev_i (i := 1)) o_addI)) eo_none o_slL
      rw [cutD_from (by omega), rowsD_drop] at this
      have e : (j + 1).toNat = j.toNat + 1 := by omega
      rw [e] at this
      exact this
    have hodd : ∀ p ∈ ODD ++ ODD2, sm 60 p := by unfold sm; decide
    have T1 : ∀ o ∈ ODD ++ ODD2, sm 5000 (TL.joinL [32] ((cut 32 l).take j.toNat ++ [o] ++ (cut 32 l).drop (j.toNat + 1))) := fun o ho => sm_put hl (fun p hp => by rw [List.mem_singleton.mp hp]; exact hodd o ho) (by simp)
    have lenT : ∀ (X : List (List Nat)), X.length ≤ 1 → (∀ p ∈ X, sm 60 p) → (((cut 32 l).take j.toNat ++ X ++ (cut 32 l).drop (j.toNat + 1)).map List.length).sum + ((cut 32 l).take j.toNat ++ X ++ (cut 32 l).drop (j.toNat + 1)).length * 1 ≤ 100000 := fun X hX hx => by
      have h1 := TX.cut_sum 32 l
      have h2 := sum_take (ws := cut 32 l) j.toNat
      have h3 := sum_drop (ws := cut 32 l) j.toNat
      have h4 := sum_le (ps := X) (n := 60) fun p hp => (hx p hp).1
      rw [List.map_append, List.map_append, List.sum_append, List.sum_append, List.length_append, List.length_append, List.length_take, List.length_drop]
      omega
    refine ws_sq (ws_asg (wx_lstD (wa_cons (wx_bm (x := dS (AL.S [32])) ev_s ?_ ?h0))))
    refine wa_cons (wx_op (wx_op (wx_of (eL _) (wx_lstD (wa_cons ?_)))))
    refine wx_pick (i := 0) (ds := rowsD (ODD ++ ODD2)) rfl hn3 (fun st' => ev_var rfl) hF rfl (by decide) fun d x4 y4 hd => ?_
    case h0 => exact ⟨[dL (([] : List Str).map PyData.str)], _, o_joinL (a := AL.S [32]) (ys := []) (by decide)⟩
    rw [List.set_set]
    have hn4 := set_get (o' := RmO x4 y4) hn
    obtain ⟨o, ho, rfl⟩ := List.mem_map.mp hd
    refine wa_nil ⟨rowsD [o], rfl, (by decide : 1 ≤ 100000), _, o_addL (by rw [rowsD_len, rowsD_len, List.length_take]; simp; omega), ?_⟩
    rw [rowsD_app]
    refine wx_of (eR _ none) ⟨_, o_addL (by rw [rowsD_len, rowsD_len, List.length_append, List.length_take, List.length_drop]; simp; omega), ?_⟩
    rw [rowsD_app]
    refine wa_nil ⟨dS (AL.S (TL.joinL [32] ((cut 32 l).take j.toNat ++ [o] ++ (cut 32 l).drop (j.toNat + 1)))), ?_, ?_⟩
    · have := o_joinL (K := K) (st := (st.set n (RmO x3 y3)).set n (RmO x4 y4)) (a := AL.S [32]) (ys := ((cut 32 l).take j.toNat ++ [o] ++ (cut 32 l).drop (j.toNat + 1)).map AL.S) (by rw [TX.S_len, List.length_map, TX.lens]; exact Nat.le_trans (lenT [o] (by simp) fun p hp => by rw [List.mem_singleton.mp hp]; exact hodd o ho) (by decide))
      rw [TX.join_S, ← rowsD_S] at this
      exact this
    have t1 := T1 o ho
    generalize TL.joinL [32] ((cut 32 l).take j.toNat ++ [o] ++ (cut 32 l).drop (j.toNat + 1)) = o1 at t1
    refine wa_nil ⟨rowsD [o1], rfl, Nat.le_of_ble_eq_true rfl, ?_⟩
    rw [List.set_set]
    have hi : i.toNat ≤ l.length := by omega
    have ei1 : (i + 1).toNat = i.toNat + 1 := by omega
    have hA : (l.take i.toNat).length ≤ 1500 := (sm_take i.toNat hl).1
    have hB : (l.drop i.toNat).length ≤ 1500 := (sm_drop i.toNat hl).1
    have hB1 : (l.drop (i.toNat + 1)).length ≤ 1500 := (sm_drop (i.toNat + 1) hl).1
    have vl : ∀ (sl' : Sl) (st' : Sto), sl'[1]? = some (some (dS (AL.S l))) → Ev K (tVar 1) sl' st' (dS (AL.S l)) := fun sl' st' h => ev_var h
    have eA : ∀ (sl' : Sl) (st' : Sto), sl'[1]? = some (some (dS (AL.S l))) → sl'[2]? = some (some (dI i)) → Ev K (tSl (rSL K) (tVar 1) tNoPart (tPart (tVar 2))) sl' st' (dS (AL.S (l.take i.toNat))) := fun sl' st' h h2 => ev_to (ev_var h) (ev_var h2) hi0 (by omega)
    have eB : ∀ (sl' : Sl) (st' : Sto), sl'[1]? = some (some (dS (AL.S l))) → sl'[2]? = some (some (dI i)) → Ev K (tSl (rSL K) (tVar 1) (tPart (tVar 2)) tNoPart) sl' st' (dS (AL.S (l.drop i.toNat))) := fun sl' st' h h2 => ev_from (ev_var h) (ev_var h2) hi0 (by omega)
    have eB1 : ∀ (sl' : Sl) (st' : Sto), sl'[1]? = some (some (dS (AL.S l))) → sl'[2]? = some (some (dI i)) → Ev K (tSl (rSL K) (tVar 1) (tPart (tOp (rADD K) (tVar 2) (tC (.int 1)))) tNoPart) sl' st' (dS (AL.S (l.drop (i.toNat + 1)))) := fun sl' st' h h2 => by
      have := ev_from (K := K) (ev_var (st := st') h) (ev_op (ev_var h2) (ev_i (i := 1)) o_addI) (by omega) (by omega)
      rw [ei1] at this
      exact this
    let M : List (List Nat) := [l.take i.toNat ++ [c] ++ l.drop i.toNat, l.take i.toNat ++ l.drop (i.toNat + 1), l.take i.toNat ++ [c] ++ l.drop (i.toNat + 1), l.take i.toNat]
    have hAc : (l.take i.toNat ++ [c]).length ≤ 2000 := by rw [List.length_append]; simp only [List.length_singleton]; omega
    refine ws_asgS (x := dL (rowsD ([o1] ++ M))) (ev_is (ev_op (ev_var rfl) (ev_lst (ds := rowsD M) (ea_cons (ev_catS (ev_catS (eA _ _ rfl rfl) (ev_var (i := 3) rfl) (by omega) (by simp)) (eB _ _ rfl rfl) (by omega) (by omega)) (ea_cons (ev_catS (eA _ _ rfl rfl) (eB1 _ _ rfl rfl) (by omega) (by omega)) (ea_cons (ev_catS (ev_catS (eA _ _ rfl rfl) (ev_var (i := 3) rfl) (by omega) (by simp)) (eB1 _ _ rfl rfl) (by omega) (by omega)) (ea_cons (eA _ _ rfl rfl) ea_nil)))) (Nat.le_of_ble_eq_true rfl)) (o_addL (Nat.le_of_ble_eq_true rfl))) (by rw [rowsD_app])) ?_
    let M2 : List (List Nat) := [TL.joinL [32] ((cut 32 l).take j.toNat ++ [] ++ (cut 32 l).drop (j.toNat + 1)), l ++ l.take i.toNat]
    let sl7 : Sl := [some (.o n), some (dS (AL.S l)), some (dI i), some (dS (AL.S [c])), some (dL (rowsD (cut 32 l))), some (dI j), some (dL (rowsD (ODD ++ ODD2))), some (dL (rowsD ([o1] ++ M)))]
    have eL7 : ∀ st' : Sto, Ev K (tSl (rSL K) (tVar 4) tNoPart (tPart (tVar 5))) sl7 st' (dL (rowsD ((cut 32 l).take j.toNat))) := fun st' => by
      have := ev_sl (r := rSL K) (K := K) (st := st') (ev_var (sl := sl7) (i := 4) rfl) eo_none (eo_some (ev_var (i := 5) rfl)) o_slL
      rw [cutD_to hj0, rowsD_take] at this
      exact this
    have ej : ∀ st' : Sto, Ev K (tOp (rADD K) (tSl (rSL K) (tVar 4) tNoPart (tPart (tVar 5))) (tSl (rSL K) (tVar 4) (tPart (tOp (rADD K) (tVar 5) (tC (.int 1)))) tNoPart)) sl7 st' (dL (rowsD ((cut 32 l).take j.toNat ++ [] ++ (cut 32 l).drop (j.toNat + 1)))) := fun st' => by
      have := ev_op (K := K) (eL7 st') (eR st' (some (dL (rowsD ([o1] ++ M))))) (o_addL (by rw [rowsD_len, rowsD_len, List.length_take, List.length_drop]; omega))
      rw [rowsD_app] at this
      rw [List.append_nil]
      exact this
    refine ws_ret (wx_pick (i := 0) (ds := rowsD ([o1] ++ M ++ M2)) rfl hn4 (fun st' => ev_is (ev_op (ev_var rfl) (ev_lst (ds := rowsD M2) (ea_cons (ev_joinR (ej st') (lenT [] (by simp) fun p hp => nomatch hp)) (ea_cons (ev_catS (vl _ _ rfl) (eA _ _ rfl rfl) (by omega) (by omega)) ea_nil)) (Nat.le_of_ble_eq_true rfl)) (o_addL (Nat.le_of_ble_eq_true rfl))) (by rw [rowsD_app])) hF rfl (by decide) fun d x5 y5 hd => ?_)
    rw [List.set_set]
    obtain ⟨p, hp, rfl⟩ := List.mem_map.mp hd
    refine k p x5 y5 ?_
    have sc1 : sm 1 [c] := ⟨by simp, fun q hq => by rw [List.mem_singleton.mp hq]; exact hc'⟩
    simp only [M, M2, List.cons_append, List.nil_append, List.mem_cons, List.not_mem_nil, or_false] at hp
    rcases hp with rfl | rfl | rfl | rfl | rfl | rfl | rfl
    · exact t1
    · exact sm_mono (sm_app (sm_app (sm_take _ hl) sc1) (sm_drop _ hl)) (by decide)
    · exact sm_mono (sm_app (sm_take _ hl) (sm_drop _ hl)) (by decide)
    · exact sm_mono (sm_app (sm_app (sm_take _ hl) sc1) (sm_drop _ hl)) (by decide)
    · exact sm_mono (sm_take _ hl) (by decide)
    · exact sm_put hl (fun p hp => nomatch hp) (by simp)
    · exact sm_mono (sm_app hl (sm_take _ hl)) (by decide)
end
end K68

set_option Elab.async false
set_option linter.all false
set_option maxRecDepth 100000
set_option maxHeartbeats 4000000
namespace K68
open PySem PySem.Spec PyProof.Rows L2 AL
open TX (Fl okZ cut)
/-! ### the law's own reading of a word -/
def isLow (c : Nat) : Bool := decide (97 ≤ c) && decide (c ≤ 122)
def lawPart (p : List Nat) : Bool := decide (1 ≤ p.length) && decide (p.length ≤ 8) && p.all isLow
def lawInt (l : List Nat) : Option PyData := if figsOk l = true then (if toString (numOf l) = AL.S l then some (.int (numOf l)) else none) else none
def lawPath (ws : List (List Nat)) : Option PyData := match ws with
  | h :: ps => if (decide (h = []) && (decide (1 ≤ ps.length) && decide (ps.length ≤ 5)) && ps.all lawPart) = true then some (.tuple (wsD ps)) else none
  | [] => none
def lawThing : Kd → List Nat → Option PyData
  | .p, l => if l = [47] then some (.tuple []) else lawPath (cut 47 l)
  | .w, l => lawInt l
  | .t, l => if l = [45] then some .none else lawInt l
def optL : Option PyData → List PyData
  | some d => [d]
  | none => []
def kdS : Kd → Str
  | .p => "p"
  | .w => "n"
  | .t => "e"
def fThing : DS := fun xs st Φ _ => ∃ k l, xs = [dS (kdS k), dS (AL.S l)] ∧ okL l ∧ Φ (dL (optL (lawThing k l))) st
def pick1 (g : Nat → Bool) : AV → Option PyData
  | .d (.str z) => if g (z.cps.toList.headD 0) = true then none else some (.str z)
  | _ => none
theorem pick_map (g : Nat → Bool) : ∀ l : List Nat, (l.map fun c => dS (AL.S [c])).filterMap (pick1 g) = (l.filter fun c => !g c).map fun c => .str (AL.S [c])
  | [] => rfl
  | c :: l => by
    have ih := pick_map g l
    have e : pick1 g (dS (AL.S [c])) = if g c = true then none else some (PyData.str (AL.S [c])) := rfl
    rw [List.map_cons, List.filterMap_cons, e, ih, List.filter_cons]
    cases hg : g c with
    | true => simp
    | false => simp
theorem low_lt (c : Nat) : (!decide ([c] < ([97] : List Nat)) && !decide (([122] : List Nat) < [c])) = isLow c := by
  have h1 : ([c] < ([97] : List Nat)) ↔ c < 97 := by
    constructor
    · intro h
      cases h with
      | rel h => exact h
      | cons h => cases h
    · exact fun h => .rel h
  have h2 : (([122] : List Nat) < [c]) ↔ 122 < c := by
    constructor
    · intro h
      cases h with
      | rel h => exact h
      | cons h => cases h
    · exact fun h => .rel h
  unfold isLow
  have a1 : decide ([c] < ([97] : List Nat)) = decide (c < 97) := decide_eq_decide.mpr h1
  have a2 : decide (([122] : List Nat) < [c]) = decide (122 < c) := decide_eq_decide.mpr h2
  rw [a1, a2]
  by_cases a : c < 97 <;> by_cases b : 122 < c <;> simp [a, b] <;> omega
section
variable {P : Program} {w : World} {K : PySem.W.Frag} {mg : Str → Option Value} {base : Heap} {f d C : Addr} {fd : FuncData} {a : Ads}
theorem sc_law_thing : FnScope ["_law_kind", "_law_word", "_law_parts", "_law_part", "_law_sign", "_law_body"] ["_law_kind", "_law_word"] (defScope (top 35)) := C8.fnScope_by (by decide +kernel)
theorem et_odd {sl : Sl} {st : Sto} {i j : Nat} {vs : List Nat} {l : List Nat} {tt : TT} {g : Nat → Bool} (hv : sl[i]? = some (some (dS (AL.S l)))) (hl : okL l) (hj : j ∈ vs) (hjl : ∀ c, ((wipeS sl vs).set j (some (dS (AL.S [c]))))[j]? = some (some (dS (AL.S [c]))))
    (ht : ∀ c ∈ l, Et K tt ((wipeS sl vs).set j (some (dS (AL.S [c])))) st (!g c)) : Et K (tTest (tOp (rNE K) (tLc (iStr (tVar i)) (gName j) tt (tVar j) vs) (tLst tNil))) sl st (!(l.all g)) := by
  have h := ev_lc (K := K) (sl := sl) (st := st) (te := tVar j) (g := gName j) (tt := tt) (vs := vs) (pick1 g) (ei_str (ev_var hv)) (by rw [List.length_map]; show l.length ≤ _; have := hl.1; omega) fun x hx => by
    obtain ⟨c, hc, rfl⟩ := List.mem_map.mp hx
    have hc : c ∈ l := hc
    refine ⟨_, [j], (fun q hq => by rw [List.mem_singleton.mp hq]; exact hj), eg_name, ?_⟩
    have e : pick1 g (dS (AL.S [c])) = if g c = true then none else some (.str (AL.S [c])) := rfl
    rw [e]
    have := ht c hc
    cases hg : g c with
    | true =>
      rw [hg] at this
      exact this
    | false =>
      rw [hg] at this
      exact ⟨this, ev_var (hjl c)⟩
  have h : Ev K (tLc (iStr (tVar i)) (gName j) tt (tVar j) vs) sl st (dL ((l.map fun c => dS (AL.S [c])).filterMap (pick1 g))) := h
  rw [pick_map] at h
  have fl : Fl 1 (.list ((l.filter fun c => !g c).map fun c => .str (AL.S [c]))) := fun d hd => by
    obtain ⟨c, hc, rfl⟩ := List.mem_map.mp hd
    exact okZ_of ⟨by simp, fun x hx => by rw [List.mem_singleton.mp hx]; exact hl.2 c (List.mem_filter.mp hc).1⟩
  have := et_test (ev_op (K := K) h (ev_lst (ds := []) ea_nil (by decide)) (o_neD (TX.shaped_fl fl) rfl))
  refine et_is this ?_
  cases hf : l.filter fun c => !g c with
  | nil =>
    have : l.all g = true := by
      rw [List.all_eq_true]
      intro c hc
      have := List.filter_eq_nil_iff.mp hf c hc
      simpa using this
    rw [this]
    rfl
  | cons x r =>
    have hx : x ∈ l.filter fun c => !g c := by rw [hf]; exact List.mem_cons_self ..
    obtain ⟨h1, h2⟩ := List.mem_filter.mp hx
    have : l.all g = false := by
      rw [List.all_eq_false]
      exact ⟨x, h1, by simpa using h2⟩
    rw [this, List.map_cons]
    have : PyData.eqv (.list (PyData.str (AL.S [x]) :: r.map fun c => .str (AL.S [c]))) (.list []) = false := by simp only [PyData.eqv, PyData.eqvAll]
    rw [this]
theorem ev_int {te : TE} {sl : Sl} {st : Sto} {l : List Nat} (h : Ev K te sl st (dS (AL.S l))) (hf : figsOk l = true) : Ev K (tCB rINT (tCons te tNil)) sl st (dI (numOf l)) := ev_cb (ea_cons h ea_nil) (o_intS (num_text hf).1 (by rw [TX.S_len]; have := (num_text hf).2; omega))
theorem ok_law_thing (B : BT mg) (F : Fn K "_law_thing" 35 f fd) : FnOk P w K mg base (L2.CX P w) 1 f fd ["_law_kind", "_law_word"] (spD K fThing) := by
  refine fn_D F sc_law_thing (fun xs st Φ Ψ h => ?_) (fun cdv A outer s H E hr => ⟨_, (pss_cons (ps_if (t_eq (K := K) hr.units (pv 0) pe_str) (pss_cons (ps_if (t_eq (K := K) hr.units (pv 1) pe_str) (pss_one (ps_ret (pe_lst (pa_cons (pe_tup pa_nil) pa_nil)))) pss_nil)
      (pss_cons (ps_set (i := 2) sc_law_thing.nd rfl (Or.inl rfl) (x_split (K := K) (pv 1) (pa_cons pe_str pa_nil)))
      (pss_cons (ps_if (PW.pt (pw_or (t_ne (K := K) hr.units (x_ix (K := K) (pv 2) pe_int) pe_str) (pw_or1 (pt_not (pt_chain op_LE op_LE pe_int (x_len (K := K) B (pv 2)) pe_int))))) (pss_one (ps_ret (pe_lst pa_nil))) pss_nil)
      (pss_cons (ps_for (passes_of rfl) rfl (pi_list (x_sl (K := K) (pv 2) (po_some pe_int) po_none)) (pg_name (i := 3) sc_law_thing.nd rfl (Or.inl rfl)) (pss_one (ps_if (PW.pt (pw_or (pt_not (pt_chain op_LE op_LE pe_int (x_len (K := K) B (pv 3)) pe_int)) (pw_or1 (t_ne (K := K) hr.units (pe_lc (own := [("_law_sign", 4)]) (g := gName 4) rfl sc_law_thing.nd (pi_str (pv 3)) (blkOk_by (N := ["_law_kind", "_law_word", "_law_parts", "_law_part", "_law_sign", "_law_body"]) (sc := defScope (top 35)) (by decide +kernel)) (fun _ _ _ _ _ => pg_name (i := 4) sc_law_thing.nd rfl (Or.inl rfl)) (fun _ _ _ _ _ => (pts_one (pt_not (pt_chain op_LE op_LE pe_str (pv 4) pe_str)))) (fun _ _ _ _ _ => (pv 4))) (pe_lst pa_nil))))) (pss_one (ps_ret (pe_lst pa_nil))) pss_nil)))
      (pss_one (ps_ret (pe_lst (pa_cons (x_tuple (K := K) B (x_sl (K := K) (pv 2) (po_some pe_int) po_none)) pa_nil)))))))) pss_nil)
      (pss_cons (ps_if (PW.pt (pw_and (t_eq (K := K) hr.units (pv 0) pe_str) (pw_and1 (t_eq (K := K) hr.units (pv 1) pe_str)))) (pss_one (ps_ret (pe_lst (pa_cons pe_non pa_nil)))) pss_nil)
      (pss_cons (ps_set (i := 5) sc_law_thing.nd rfl (Or.inl rfl) (x_sl (K := K) (pv 1) (po_some (x_int B (x_eq (K := K) hr.units (x_sl (K := K) (pv 1) po_none (po_some pe_int)) pe_str))) po_none))
      (pss_cons (ps_if (PW.pt (pw_or (t_eq (K := K) hr.units (pv 5) pe_str) (pw_or (t_gt (x_len (K := K) B (pv 5)) pe_int) (pw_or1 (t_ne (K := K) hr.units (pe_lc (own := [("_law_sign", 4)]) (g := gName 4) rfl sc_law_thing.nd (pi_str (pv 5)) (blkOk_by (N := ["_law_kind", "_law_word", "_law_parts", "_law_part", "_law_sign", "_law_body"]) (sc := defScope (top 35)) (by decide +kernel)) (fun _ _ _ _ _ => pg_name (i := 4) sc_law_thing.nd rfl (Or.inl rfl)) (fun _ _ _ _ _ => (pts_one (t_niS (pv 4) pe_str))) (fun _ _ _ _ _ => (pv 4))) (pe_lst pa_nil)))))) (pss_one (ps_ret (pe_lst pa_nil))) pss_nil)
      (pss_one (ps_ret (pe_ifExp (t_eq (K := K) hr.units (x_str B (x_int B (pv 1))) (pv 1)) (pe_lst (pa_cons (x_int B (pv 1)) pa_nil)) (pe_lst pa_nil)))))))), fun b xs st Φ Ψ h hW => ?_⟩)
  · obtain ⟨k, l, rfl, _⟩ := h
    rfl
  · obtain ⟨k, l, rfl, hl, kk⟩ := h
    have hl1 := hl.1
    have v0 : ∀ sl : Sl, sl[1]? = some (some (dS (AL.S l))) → Ev K (tVar 1) sl st (dS (AL.S l)) := fun sl h => ev_var h
    by_cases hk : k = .p
    · subst hk
      refine ws_guard (et_test (ev_op (ev_var rfl) ev_s (o_eqS (x := "p") (y := "p")))) (fun hp => ?_) (fun hp => by simp at hp)
      refine ws_guard (et_test (ev_op (v0 _ rfl) ev_s (o_eqS (y := AL.S [47])))) (fun hp => ws_retE (x := dL [.tuple []]) (ev_lst (ds := [_]) (ea_cons (ev_tup (ds := []) ea_nil (by decide)) ea_nil) (Nat.le_of_ble_eq_true rfl)) ?_) (fun hp => ?_)
      · have e : l = [47] := S_inj.mp (of_decide_eq_true hp)
        subst e
        exact kk
      have h1 : ¬ l = [47] := fun e => of_decide_eq_false hp (by rw [e])
      have e0 : lawThing .p l = lawPath (cut 47 l) := by unfold lawThing; simp only; rw [if_neg h1]
      rw [e0] at kk
      have es : Ev K (tBM K "str" rSPLIT (tVar 1) (tCons (tC (.str "/")) tNil)) (startS ["_law_kind", "_law_word", "_law_parts", "_law_part", "_law_sign", "_law_body"] [dS (kdS .p), dS (AL.S l)]) st (dL (rowsD (cut 47 l))) := by
        have := ev_bm (v0 (startS ["_law_kind", "_law_word", "_law_parts", "_law_part", "_law_sign", "_law_body"] [dS (kdS .p), dS (AL.S l)]) rfl) (ea_cons (ev_s (z := AL.S [47])) ea_nil) (o_split (K := K) (st := st) (a := AL.S l) (b := AL.S [47]) rfl (by rw [TX.S_len]; omega))
        rw [TX.split_cut (by decide), List.map_map] at this
        exact this
      refine ws_asgS es ?_
      have hm : ∀ p ∈ cut 47 l, okL p := fun p hp => ok_cut hl hp
      cases hc : cut 47 l with
      | nil => exact absurd hc (TX.cut_ne _ _)
      | cons h ps =>
        rw [hc] at kk hm
        have h0 : atI (rowsD (h :: ps)) 0 = some (.str (AL.S h)) := by simp [atI, ixN, rowsD]
        have hlen : (rowsD (h :: ps)).length = ps.length + 1 := by rw [rowsD_len]; rfl
        let sl2 : Sl := [some (dS (kdS .p)), some (dS (AL.S l)), some (dL (rowsD (h :: ps))), none, none, none]
        have v2 : ∀ sl : Sl, sl[2]? = some (some (dL (rowsD (h :: ps)))) → Ev K (tVar 2) sl st (dL (rowsD (h :: ps))) := fun sl h => ev_var h
        have tail : ∀ sl : Sl, sl[2]? = some (some (dL (rowsD (h :: ps)))) → Ev K (tSl (rSL K) (tVar 2) (tPart (tC (.int 1))) tNoPart) sl st (dL (rowsD ps)) := fun sl hs => by
          have := ev_sl (r := rSL K) (v2 sl hs) (eo_some (ev_i (i := 1))) eo_none o_slL
          rw [cutD_from (by decide), rowsD_drop] at this
          exact this
        refine ws_guard (et_or (et_test (ev_op (ev_op (v2 _ rfl) ev_i (o_ixL h0)) ev_s (o_neS (y := AL.S [])))) fun _ => et_not (et_chain ev_i (ev_lenL (v2 _ rfl)) o_leI (fun _ => ev_i) fun _ => o_leI)) (fun hp => ws_retE (ev_lst (ds := []) ea_nil (Nat.le_of_ble_eq_true rfl)) ?_) (fun hp => ?_)
        · have e : lawPath (h :: ps) = none := by
            unfold lawPath
            refine if_neg fun q => ?_
            simp only [Bool.and_eq_true, decide_eq_true_eq] at q
            obtain ⟨⟨q1, q2, q3⟩, _⟩ := q
            subst q1
            rw [hlen] at hp
            simp only [Bool.or_eq_true, Bool.not_eq_true', Bool.and_eq_false_iff, decide_eq_false_iff_not] at hp
            rcases hp with hp | hp | hp
            · exact hp trivial
            · omega
            · omega
          rw [e] at kk
          exact kk
        · rw [hlen] at hp
          simp only [Bool.or_eq_false_iff, Bool.not_eq_false', Bool.and_eq_true, decide_eq_true_eq, S_inj] at hp
          obtain ⟨q1, q2, q3⟩ := hp
          subst q1
          have e : lawPath ([] :: ps) = if ps.all lawPart = true then some (.tuple (wsD ps)) else none := by
            unfold lawPath
            simp only [decide_eq_true (by omega : 1 ≤ ps.length), decide_eq_true (by omega : ps.length ≤ 5), decide_true, Bool.and_self, Bool.true_and]
          rw [e] at kk
          refine ws_sq (ws_for (wi_of (ei_list (tail _ rfl)) ⟨fun i sl1 st1 => (∃ x3, sl1 = [some (dS (kdS .p)), some (dS (AL.S l)), some (dL (rowsD ([] :: ps))), x3, none, none]) ∧ st1 = st ∧ ∀ j p, j < i → ps[j]? = some p → lawPart p = true, ⟨⟨none, rfl⟩, rfl, fun j p hj => absurd hj (Nat.not_lt_zero _)⟩, ?_, ?_⟩))
          · rintro i x sl1 st1 hx ⟨⟨x3, rfl⟩, rfl, hg⟩
            rw [List.getElem?_map] at hx
            unfold rowsD at hx
            rw [List.getElem?_map] at hx
            cases hi : ps[i]? with
            | none => rw [hi] at hx; cases hx
            | some p =>
              rw [hi] at hx
              cases hx
              have hpo := hm p (List.mem_cons_of_mem _ (List.mem_of_getElem? hi))
              refine ⟨_, _, eg_name, ?_⟩
              refine ws_ifE (p := !lawPart p) (et_is (et_or (et_not (et_chain ev_i (ev_lenS (z := AL.S p) (ev_var rfl) (by rw [TX.S_len]; have := hpo.1; omega)) o_leI (fun _ => ev_i) fun _ => o_leI)) fun _ => et_odd (g := isLow) (l := p) rfl hpo (by decide) (fun c => rfl) fun c _ => et_is (et_not (et_chain ev_s (ev_var rfl) (o_leS (i := AL.S [97]) (j := AL.S [c])) (fun _ => ev_s) fun _ => o_leS (i := AL.S [c]) (j := AL.S [122]))) (by rw [← low_lt])) ?_) (fun hp => ?_) (fun hp => ?_)
              · unfold lawPart
                rw [TX.S_len]
                have a1 : decide ((1:Int) ≤ (p.length : Int)) = decide (1 ≤ p.length) := decide_eq_decide.mpr (by omega)
                have a2 : decide ((p.length : Int) ≤ 8) = decide (p.length ≤ 8) := decide_eq_decide.mpr (by omega)
                rw [a1, a2]
                simp only [Bool.not_and]
              · refine ws_retE (ev_lst (ds := []) ea_nil (Nat.le_of_ble_eq_true rfl)) ?_
                have : ¬ ps.all lawPart = true := fun q => by
                  rw [List.all_eq_true.mp q p (List.mem_of_getElem? hi)] at hp
                  cases hp
                rw [if_neg this] at kk
                exact kk
              · refine ws_next ⟨⟨_, rfl⟩, rfl, fun j q hj hq => ?_⟩
                by_cases h : j < i
                · exact hg j q h hq
                · have : j = i := by omega
                  subst this
                  rw [hi] at hq
                  cases hq
                  simpa using hp
          · rintro sl1 st1 ⟨⟨x3, rfl⟩, rfl, hg⟩
            have ha : ps.all lawPart = true := by
              rw [List.all_eq_true]
              intro p hp
              obtain ⟨j, hj, rfl⟩ := List.mem_iff_getElem.mp hp
              exact hg j _ (by rw [List.length_map, rowsD_len]; exact hj) (List.getElem?_eq_getElem hj)
            rw [if_pos ha] at kk
            exact ws_retE (x := dL [.tuple (wsD ps)]) (ev_lst (ds := [_]) (ea_cons (ev_cb (ea_cons (tail _ rfl) ea_nil) o_tupL) ea_nil) (Nat.le_of_ble_eq_true rfl)) kk
    · have n0 : decide (kdS k = "p") = false := by
        cases k with
        | p => exact absurd rfl hk
        | w => decide
        | t => decide
      refine ws_guard (et_is (et_test (ev_op (ev_var rfl) ev_s (o_eqS (x := kdS k) (y := "p")))) n0) (fun hp => by cases hp) (fun _ => ?_)
      refine ws_guard (p := decide (kdS k = "e") && decide (l = [45])) (et_is (et_and (et_test (ev_op (ev_var rfl) ev_s (o_eqS (x := kdS k) (y := "e")))) fun _ => et_test (ev_op (v0 _ rfl) ev_s (o_eqS (y := AL.S [45])))) (by congr 1; exact decide_eq_decide.mpr S_inj)) (fun hp => ?_) (fun hp => ?_)
      · simp only [Bool.and_eq_true, decide_eq_true_eq] at hp
        obtain ⟨q1, rfl⟩ := hp
        refine ws_retE (x := dL [.none]) (ev_lst (ds := [_]) (ea_cons ev_n ea_nil) (Nat.le_of_ble_eq_true rfl)) ?_
        cases k with
        | p => exact absurd rfl hk
        | w => exact absurd q1 (by decide)
        | t => exact kk
      · have e : lawThing k l = lawInt l := by
          cases k with
          | p => exact absurd rfl hk
          | w => rfl
          | t =>
            have : ¬ l = [45] := fun q => by
              subst q
              revert hp
              decide
            show (if l = [45] then some PyData.none else lawInt l) = _
            rw [if_neg this]
        rw [e] at kk
        have et1 : Ev K (tSl (rSL K) (tVar 1) tNoPart (tPart (tC (.int 1)))) (startS ["_law_kind", "_law_word", "_law_parts", "_law_part", "_law_sign", "_law_body"] [dS (kdS k), dS (AL.S l)]) st (dS (AL.S (l.take 1))) := ev_to (v0 _ rfl) (ev_i (i := 1)) (by decide) hl1
        have hb : decide (AL.S (l.take 1) = AL.S [45]) = decide (l.head? = some 45) := decide_eq_decide.mpr (by
          rw [S_inj]
          cases l with
          | nil => simp
          | cons c r => simp)
        have ein : Ev K (tCB rINT (tCons (tOp (rEQ K) (tSl (rSL K) (tVar 1) tNoPart (tPart (tC (.int 1)))) (tC (.str "-"))) tNil)) (startS ["_law_kind", "_law_word", "_law_parts", "_law_part", "_law_sign", "_law_body"] [dS (kdS k), dS (AL.S l)]) st (dI (if decide (l.head? = some 45) = true then 1 else 0)) := by
          rw [← hb]
          exact ev_cb (ea_cons (ev_op et1 ev_s (o_eqS (y := AL.S [45]))) ea_nil) o_intB
        have ebd : Ev K (tSl (rSL K) (tVar 1) (tPart (tCB rINT (tCons (tOp (rEQ K) (tSl (rSL K) (tVar 1) tNoPart (tPart (tC (.int 1)))) (tC (.str "-"))) tNil))) tNoPart) (startS ["_law_kind", "_law_word", "_law_parts", "_law_part", "_law_sign", "_law_body"] [dS (kdS k), dS (AL.S l)]) st (dS (AL.S (figsOf l))) := by
          have := ev_from (v0 _ rfl) ein (by split <;> decide) hl1
          have e2 : l.drop (if decide (l.head? = some 45) = true then (1:Int) else 0).toNat = figsOf l := by
            unfold figsOf
            by_cases h : l.head? = some 45
            · rw [if_pos h, if_pos (decide_eq_true h)]; rfl
            · rw [if_neg h, if_neg (by rw [decide_eq_false h]; decide)]; rfl
          rw [e2] at this
          exact this
        refine ws_asgS ebd ?_
        have hfo : okL (figsOf l) := by
          unfold figsOf
          split
          · exact ok_drop 1 hl
          · exact hl
        have v5 : Ev K (tVar 5) ((startS ["_law_kind", "_law_word", "_law_parts", "_law_part", "_law_sign", "_law_body"] [dS (kdS k), dS (AL.S l)]).set 5 (some (dS (AL.S (figsOf l))))) st (dS (AL.S (figsOf l))) := ev_var rfl
        refine ws_guard (p := !figsOk l) (et_is (et_or (et_test (ev_op v5 ev_s (o_eqS (y := AL.S [])))) fun _ => et_or (et_test (ev_op (ev_lenS v5 (by rw [TX.S_len]; have := hfo.1; omega)) ev_i (o_Ib (f := fun i j => decide (j < i))))) fun _ => et_odd (g := isFig) rfl hfo (by decide) (fun c => rfl) fun c _ => et_test (ev_op (ev_var rfl) (ev_s (z := FIGS)) (o_notInS (k := c)))) ?_) (fun hp => ws_retE (ev_lst (ds := []) ea_nil (Nat.le_of_ble_eq_true rfl)) ?_) (fun hp => ?_)
        · unfold figsOk
          rw [Bool.not_not]
          congr 1
          · exact decide_eq_decide.mpr S_inj
          · congr 1
            exact decide_eq_decide.mpr (by rw [TX.S_len]; omega)
        · have e : lawInt l = none := by
            unfold lawInt
            rw [if_neg (by simpa using hp)]
          rw [e] at kk
          exact kk
        · have hf : figsOk l = true := by simpa using hp
          have e : lawInt l = if toString (numOf l) = AL.S l then some (.int (numOf l)) else none := by
            unfold lawInt
            rw [if_pos hf]
          rw [e] at kk
          refine ws_retE (x := dL (optL (if toString (numOf l) = AL.S l then some (.int (numOf l)) else none))) (ev_if (p := decide (toString (numOf l) = AL.S l)) (et_test (ev_op (ev_cb (ea_cons (ev_int (v0 _ rfl) hf) ea_nil) (o_strsI (log_of (num_lt hf)))) (v0 _ rfl) o_eqS)) (fun h => ?_) fun h => ?_) kk
          · rw [if_pos (of_decide_eq_true h)]
            exact ev_lst (ds := [_]) (ea_cons (ev_int (v0 _ rfl) hf) ea_nil) (Nat.le_of_ble_eq_true rfl)
          · rw [if_neg (of_decide_eq_false h)]
            exact ev_lst (ds := []) ea_nil (Nat.le_of_ble_eq_true rfl)
end
end K68

set_option Elab.async false
set_option linter.all false
set_option maxRecDepth 100000
set_option maxHeartbeats 4000000
namespace K68
open PySem PySem.Spec PyProof.Rows L2 AL
open TX (Fl okZ cut)
/-! ### the law's own reading of a row -/
def kdC : Kd → Nat
  | .p => 112
  | .w => 110
  | .t => 101
def kdT (ks : List Kd) : Str := AL.S (ks.map kdC)
theorem kdS_C (k : Kd) : kdS k = AL.S [kdC k] := by cases k <;> decide
def orN : Option PyData → List PyData
  | some d => [d]
  | none => [.str "none", .str "none"]
def lawFound (ks : List Kd) (ws : List (List Nat)) : List PyData := (ks.zip ws).flatMap fun q => orN (lawThing q.1 q.2)
def lawRow (w0 : List Nat) (ws : List (List Nat)) : PyData := match formOf (AL.S w0) with
  | some ks => if ws.length = ks.length then (if (lawFound ks ws).length = ws.length then .tuple (.str (AL.S w0) :: lawFound ks ws) else .none) else .none
  | none => .none
def lawEntry (l : List Nat) : PyData := match cut 32 l with
  | w0 :: ws => lawRow w0 ws
  | [] => .none
def formsA : List (Key × AV) := forms.map fun q => (.inr q.1, dS (kdT q.2))
theorem val_forms (z : Str) : valA formsA (.inr z) = (formOf z).map fun ks => dS (kdT ks) := by
  have g : ∀ l : List (Str × List Kd), valA (l.map fun q => ((Sum.inr q.1 : Key), dS (kdT q.2))) (.inr z) = ((l.find? fun q => decide (q.1 = z)).map (·.2)).map fun ks => dS (kdT ks) := by
    intro l
    induction l with
    | nil => rfl
    | cons q l ih =>
      unfold valA at ih ⊢
      rw [List.map_cons, List.find?_cons, List.find?_cons]
      have e : decide ((Sum.inr q.1 : Key) = Sum.inr z) = decide (q.1 = z) := decide_eq_decide.mpr (by simp)
      simp only [e]
      cases hq : decide (q.1 = z) with
      | true => rfl
      | false => exact ih
  exact g forms
def f7 : List (Key × AV) := [(.inr "make", dS "p"), (.inr "folder", dS "p"), (.inr "move", dS "pp"), (.inr "copy", dS "pp"), (.inr "drop", dS "pn"), (.inr "bring", dS "np"), (.inr "clear", dS "n")]
theorem f7_len : (mergeA [] f7).length ≤ 7 := by decide +kernel
theorem putA_len (kvs : List (Key × AV)) (k : Key) (v : AV) : (putA kvs k v).length ≤ kvs.length + 1 := by
  unfold putA
  split
  · rw [List.length_map]; omega
  · rw [List.length_append]; simp
theorem forms_put : putA (putA (putA (putA (putA (mergeA [] f7) (.inr "number") (dS "n")) (.inr "piece") (dS "pn")) (.inr "own") (dS "pnn")) (.inr "raise") (dS "nne")) (.inr "edition") (dS "nne") = formsA := by kernel_rfl
theorem zip_take {α β : Type} : ∀ (i : Nat) (a : List α) (b : List β), (a.take i).zip (b.take i) = (a.zip b).take i
  | 0, _, _ => by simp
  | i + 1, [], _ => by simp
  | i + 1, _ :: _, [] => by simp
  | i + 1, x :: a, y :: b => by simp [zip_take i a b]
def fEntryOf0 : DS := fun xs st Φ _ => ∃ l, xs = [dS (AL.S l)] ∧ okL l ∧ ∀ ex, Φ (.d (lawEntry l)) (st ++ ex)
def fEntryOf : DS := fun xs st Φ _ => ∃ l, xs = [dS (AL.S l)] ∧ okL l ∧ Φ (.d (lawEntry l)) st
theorem orN_le (o : Option PyData) : (orN o).length ≤ 2 := by
  cases o with
  | none => exact Nat.le_refl _
  | some y => exact (by decide : 1 ≤ 2)
theorem found_le (ks : List Kd) (ws : List (List Nat)) : (lawFound ks ws).length ≤ 2 * ks.length := by
  unfold lawFound
  have g : ∀ l : List (Kd × List Nat), (l.flatMap fun q => orN (lawThing q.1 q.2)).length ≤ 2 * l.length := by
    intro l
    induction l with
    | nil => simp
    | cons q l ih =>
      rw [List.flatMap_cons, List.length_append, List.length_cons]
      have := orN_le (lawThing q.1 q.2)
      omega
  have := g (ks.zip ws)
  rw [List.length_zip] at this
  omega
section
variable {P : Program} {w : World} {K : PySem.W.Frag} {mg : Str → Option Value} {base : Heap} {f d C : Addr} {fd : FuncData} {a : Ads}
theorem sc_law_entry_of : FnScope ["_law_row", "_law_forms", "_law_words", "_law_found", "_law_kind", "_law_word"] ["_law_row"] (defScope (top 36)) := C8.fnScope_by (by decide +kernel)
theorem ok_law_entry_of0 (B : BT mg) (F : Fn K "_law_entry_of" 36 f fd) (c__law_thing : DefD P w K mg base 1 "_law_thing" fThing) : FnOk P w K mg base (L2.CX P w) 2 f fd ["_law_row"] (spD K fEntryOf0) := by
  refine fn_D F sc_law_entry_of (fun xs st Φ Ψ h => ?_) (fun cdv A outer s H E hr => ⟨_, (pss_cons (ps_set (i := 1) sc_law_entry_of.nd rfl (Or.inl rfl) (pe_disp (pps_cons pe_str pe_str (pps_cons pe_str pe_str (pps_cons pe_str pe_str (pps_cons pe_str pe_str (pps_cons pe_str pe_str (pps_cons pe_str pe_str (pps_cons pe_str pe_str pps_nil))))))) rfl rfl (by simp) (by decide)))
      (pss_cons (ps_dput (Nat.lt_of_le_of_lt (Nat.add_le_add_left (by decide) _) hr.units) (pv 1) pe_str pe_str rfl)
      (pss_cons (ps_dput (Nat.lt_of_le_of_lt (Nat.add_le_add_left (by decide) _) hr.units) (pv 1) pe_str pe_str rfl)
      (pss_cons (ps_dput (Nat.lt_of_le_of_lt (Nat.add_le_add_left (by decide) _) hr.units) (pv 1) pe_str pe_str rfl)
      (pss_cons (ps_dput (Nat.lt_of_le_of_lt (Nat.add_le_add_left (by decide) _) hr.units) (pv 1) pe_str pe_str rfl)
      (pss_cons (ps_dput (Nat.lt_of_le_of_lt (Nat.add_le_add_left (by decide) _) hr.units) (pv 1) pe_str pe_str rfl)
      (pss_cons (ps_set (i := 2) sc_law_entry_of.nd rfl (Or.inl rfl) (x_split (K := K) (pv 0) (pa_cons pe_str pa_nil)))
      (pss_cons (ps_if (PW.pt (pw_or (t_niD hr.units (x_ix (K := K) (pv 2) pe_int) (pv 1)) (pw_or1 (t_ne (K := K) hr.units (x_sub (x_len (K := K) B (pv 2)) pe_int) (x_len (K := K) B (x_dget hr.units (pv 1) (x_ix (K := K) (pv 2) pe_int))))))) (pss_one (ps_ret pe_non)) pss_nil)
      (pss_cons (ps_set (i := 3) sc_law_entry_of.nd rfl (Or.inl rfl) (pe_lst (pa_cons (x_ix (K := K) (pv 2) pe_int) pa_nil)))
      (pss_cons (ps_for (passes_of rfl) rfl (x_zip B (x_dget hr.units (pv 1) (x_ix (K := K) (pv 2) pe_int)) (x_sl (K := K) (pv 2) (po_some pe_int) po_none)) (pg_tup rfl (pgs_cons (pg_name (i := 4) sc_law_entry_of.nd rfl (Or.inl rfl)) (pgs_cons (pg_name (i := 5) sc_law_entry_of.nd rfl (Or.inl rfl)) pgs_nil))) (pss_one (ps_set (i := 3) sc_law_entry_of.nd rfl (Or.inl rfl) (x_add (K := K) (pv 3) (x_orT (K := K) (pe_f c__law_thing hr takesD (pa_cons (pv 4) (pa_cons (pv 5) pa_nil))) (pe_one (pe_lst (pa_cons pe_str (pa_cons pe_str pa_nil)))))))))
      (pss_one (ps_ret (pe_ifExp (t_eq (K := K) hr.units (x_len (K := K) B (pv 3)) (x_len (K := K) B (pv 2))) (x_tuple (K := K) B (pv 3)) pe_non))))))))))))), fun b xs st Φ Ψ h hW => ?_⟩)
  · obtain ⟨l, rfl, _⟩ := h
    rfl
  · obtain ⟨l, rfl, hl, kk⟩ := h
    have hl1 := hl.1
    let nm : List Str := ["_law_row", "_law_forms", "_law_words", "_law_found", "_law_kind", "_law_word"]
    refine ws_sq (ws_asg (wx_disp (ps := f7) (.cons (k := .inr "make") ev_s ev_s (.cons (k := .inr "folder") ev_s ev_s (.cons (k := .inr "move") ev_s ev_s (.cons (k := .inr "copy") ev_s ev_s (.cons (k := .inr "drop") ev_s ev_s (.cons (k := .inr "bring") ev_s ev_s (.cons (k := .inr "clear") ev_s ev_s .nil))))))) (by decide) ?_))
    have hst : ∀ o : AO, (st ++ [o])[st.length]? = some o := fun o => by simp
    have hset : ∀ o o' : AO, (st ++ [o]).set st.length o' = st ++ [o'] := fun o o' => by simp
    have put : ∀ {sl : Sl} {kvs : List (Key × AV)} (k v : Str) {ts : TS} {e : DE}, sl[1]? = some (some (.o st.length)) → kvs.length ≤ 20 → Ws K b ts sl (st ++ [.dk (putA kvs (.inr k) (dS v))]) e → Ws K b (tSeq (sDPut (tVar 1) (tC (.str k)) (tC (.str v))) ts) sl (st ++ [.dk kvs]) e := fun {sl kvs} k v {ts e} h1 h2 h3 =>
      ws_sq (ws_dput (wx_of ev_s ⟨.inr k, kvs, ev_var h1, ev_s, hst _, by omega, by rw [hset]; exact h3⟩))
    have l0 := f7_len
    have l1 := putA_len (mergeA [] f7) (.inr "number") (dS "n")
    have l2 := putA_len (putA (mergeA [] f7) (.inr "number") (dS "n")) (.inr "piece") (dS "pn")
    have l3 := putA_len (putA (putA (mergeA [] f7) (.inr "number") (dS "n")) (.inr "piece") (dS "pn")) (.inr "own") (dS "pnn")
    have l4 := putA_len (putA (putA (putA (mergeA [] f7) (.inr "number") (dS "n")) (.inr "piece") (dS "pn")) (.inr "own") (dS "pnn")) (.inr "raise") (dS "nne")
    refine put "number" "n" rfl (by omega) ?_
    refine put "piece" "pn" rfl (by omega) ?_
    refine put "own" "pnn" rfl (by omega) ?_
    refine put "raise" "nne" rfl (by omega) ?_
    refine put "edition" "nne" rfl (by omega) ?_
    rw [forms_put]
    let st1 : Sto := st ++ [.dk formsA]
    have kk : Φ (.d (lawEntry l)) st1 := kk [.dk formsA]
    have es : Ev K (tBM K "str" rSPLIT (tVar 0) (tCons (tC (.str " ")) tNil)) [some (dS (AL.S l)), some (.o st.length), none, none, none, none] st1 (dL (rowsD (cut 32 l))) := by
      have := ev_bm (ev_var (sl := [some (dS (AL.S l)), some (.o st.length), none, none, none, none]) (i := 0) rfl) (ea_cons (ev_s (z := AL.S [32])) ea_nil) (o_split (K := K) (st := st1) (a := AL.S l) (b := AL.S [32]) rfl (by rw [TX.S_len]; omega))
      rw [TX.split_cut (by decide), List.map_map] at this
      exact this
    refine ws_asgS es ?_
    have hm : ∀ p ∈ cut 32 l, okL p := fun p hp => ok_cut hl hp
    have hcl := TX.cut_len 32 l
    have e0 : lawEntry l = match cut 32 l with | w0 :: ws => lawRow w0 ws | [] => .none := rfl
    rw [e0] at kk
    cases hc : cut 32 l with
    | nil => exact absurd hc (TX.cut_ne _ _)
    | cons w0 ws =>
      rw [hc] at kk hm hcl
      simp only at kk
      have h0 : atI (rowsD (w0 :: ws)) 0 = some (.str (AL.S w0)) := by simp [atI, ixN, rowsD]
      have v2 : ∀ sl : Sl, sl[2]? = some (some (dL (rowsD (w0 :: ws)))) → Ev K (tVar 2) sl st1 (dL (rowsD (w0 :: ws))) := fun sl h => ev_var h
      have vw : ∀ sl : Sl, sl[2]? = some (some (dL (rowsD (w0 :: ws)))) → Ev K (tOp (rIx K) (tVar 2) (tC (.int 0))) sl st1 (dS (AL.S w0)) := fun sl h => ev_op (v2 sl h) ev_i (o_ixL h0)
      have hd : st1[st.length]? = some (.dk formsA) := hst _
      have hlen : (rowsD (w0 :: ws)).length = ws.length + 1 := by rw [rowsD_len]; rfl
      have hv := val_forms (AL.S w0)
      cases hf : formOf (AL.S w0) with
      | none =>
        rw [hf] at hv
        have hvn : (valA formsA (.inr (AL.S w0))).isSome = false := by rw [hv]; rfl
        have e1 : lawRow w0 ws = .none := by unfold lawRow; rw [hf]
        rw [e1] at kk
        refine ws_guard (et_or (p := true) (q := true) (et_is (et_B (ev_dnotin (k := .inr (AL.S w0)) (vw _ rfl) (ev_var rfl) hd)) (by rw [hvn]; rfl)) fun h => by cases h) (fun _ => ws_retE ev_n kk) (fun hp => by cases hp)
      | some ks =>
        rw [hf] at hv
        have hv : valA formsA (.inr (AL.S w0)) = some (dS (kdT ks)) := hv
        have hks := form_len hf
        have eg : ∀ sl : Sl, sl[2]? = some (some (dL (rowsD (w0 :: ws)))) → sl[1]? = some (some (.o st.length)) → Ev K (tDGet (tVar 1) (tOp (rIx K) (tVar 2) (tC (.int 0)))) sl st1 (dS (kdT ks)) := fun sl h h1 => ev_dget (k := .inr (AL.S w0)) (ev_var h1) (vw sl h) hd hv
        have hkl : (kdT ks).length = ks.length := by unfold kdT; rw [TX.S_len, List.length_map]
        have e1 : lawRow w0 ws = if ws.length = ks.length then (if (lawFound ks ws).length = ws.length then .tuple (.str (AL.S w0) :: lawFound ks ws) else .none) else .none := by unfold lawRow; rw [hf]
        rw [e1] at kk
        refine ws_guard (p := !decide (ws.length = ks.length)) (et_is (et_or (p := false) (et_is (et_B (ev_dnotin (k := .inr (AL.S w0)) (vw _ rfl) (ev_var rfl) hd)) (by rw [hv]; rfl)) fun _ => et_test (ev_op (ev_op (ev_lenL (v2 _ rfl)) ev_i (o_I (f := fun i j => i - j))) (ev_lenS (eg _ rfl rfl) (by omega)) o_neI)) ?_) (fun hp => ws_retE ev_n ?_) (fun hp => ?_)
        · rw [hlen, hkl, Bool.false_or]
          congr 1
          exact decide_eq_decide.mpr (by omega)
        · rw [if_neg (by simpa using hp)] at kk
          exact kk
        have hwk : ws.length = ks.length := by simpa using hp
        rw [if_pos hwk] at kk
        refine ws_asgS (ev_lst (ds := [.str (AL.S w0)]) (ea_cons (vw _ rfl) ea_nil) (Nat.le_of_ble_eq_true rfl)) ?_
        have hz1 : (kdT ks).cps.toList.map (fun k => Lf.d (.str (AL.S [k]))) = ks.map fun k => Lf.d (.str (kdS k)) := by
          show (ks.map kdC).map _ = _
          rw [List.map_map]
          exact List.map_congr_left fun k _ => by rw [kdS_C]; rfl
        have tail : ∀ sl : Sl, sl[2]? = some (some (dL (rowsD (w0 :: ws)))) → Ev K (tSl (rSL K) (tVar 2) (tPart (tC (.int 1))) tNoPart) sl st1 (dL (rowsD ws)) := fun sl hs => by
          have := ev_sl (r := rSL K) (v2 sl hs) (eo_some (ev_i (i := 1))) eo_none o_slL
          rw [cutD_from (by decide), rowsD_drop] at this
          exact this
        have hz : ((((kdT ks).cps.toList.map (fun k => Lf.d (.str (AL.S [k])))).zip ((rowsD ws).map Lf.d)).map fun q => AV.p [q.1, q.2]) = (ks.zip ws).map fun q => .p [.d (.str (kdS q.1)), .d (.str (AL.S q.2))] := by
          rw [hz1]
          unfold rowsD
          rw [List.map_map, List.zip_map, List.map_map]
          rfl
        have hi := ei_zipS (P := P) (w := w) (K := K) (sl := [some (dS (AL.S l)), some (.o st.length), some (dL (rowsD (w0 :: ws))), some (dL [.str (AL.S w0)]), none, none]) (st := st1) (ea_cons (eg _ rfl rfl) (ea_cons (tail _ rfl) ea_nil)) zd_str (zd_list (ds := rowsD ws))
        rw [hz] at hi
        have fl1 : ∀ i, (lawFound (ks.take i) (ws.take i)).length ≤ 6 := fun i => by
          have := found_le (ks.take i) (ws.take i)
          rw [List.length_take] at this
          omega
        have zt : ∀ i, (ks.take i).zip (ws.take i) = (ks.zip ws).take i := fun i => zip_take i ks ws
        refine ws_sq (ws_for (wi_of hi ⟨fun i sl1 st2 => (∃ x4 x5, sl1 = [some (dS (AL.S l)), some (.o st.length), some (dL (rowsD (w0 :: ws))), some (dL (.str (AL.S w0) :: lawFound (ks.take i) (ws.take i))), x4, x5]) ∧ st2 = st1, ⟨⟨none, none, rfl⟩, rfl⟩, ?_, ?_⟩))
        · rintro i x sl1 st2 hx ⟨⟨x4, x5, rfl⟩, rfl⟩
          rw [List.getElem?_map] at hx
          cases hi2 : (ks.zip ws)[i]? with
          | none => rw [hi2] at hx; cases hx
          | some q =>
            rw [hi2] at hx
            cases hx
            have hq := List.mem_of_getElem? hi2
            have hqo : okL q.2 := hm q.2 (List.mem_cons_of_mem _ (List.of_mem_zip hq).2)
            refine ⟨_, _, eg_tupP (egs_cons eg_name (egs_cons eg_name egs_nil)) rfl, ?_⟩
            have hstep : lawFound (ks.take (i + 1)) (ws.take (i + 1)) = lawFound (ks.take i) (ws.take i) ++ orN (lawThing q.1 q.2) := by
              unfold lawFound
              rw [zt, zt, take_get hi2, List.flatMap_append]
              simp
            have hn1 := fl1 i
            refine ws_asgE (x := dL (.str (AL.S w0) :: lawFound (ks.take (i + 1)) (ws.take (i + 1)))) ?_ ⟨⟨_, _, rfl⟩, rfl⟩
            rw [hstep]
            refine ev_is (ev_op (ev_var rfl) (ev_orT (x := dL (orN (lawThing q.1 q.2))) (d := .list (optL (lawThing q.1 q.2))) (ev_cal rnil (ea_cons (ev_var rfl) (ea_cons (ev_var rfl) ea_nil)) ⟨q.1, q.2, rfl, hqo, rfl, rfl⟩) trivial (fun ht => ?_) fun ht => ?_) (o_addL ?_)) (by rw [List.cons_append])
            · cases h : lawThing q.1 q.2 with
              | none => exact ev_lst (ds := [_, _]) (ea_cons ev_s (ea_cons ev_s ea_nil)) (Nat.le_of_ble_eq_true rfl)
              | some y => rw [h] at ht; cases ht
            · cases h : lawThing q.1 q.2 with
              | none => rw [h] at ht; cases ht
              | some y => rfl
            · have := orN_le (lawThing q.1 q.2)
              rw [List.length_cons]
              omega
        · rintro sl1 st2 ⟨⟨x4, x5, rfl⟩, rfl⟩
          have hzl : ((ks.zip ws).map fun q => AV.p [Lf.d (.str (kdS q.1)), Lf.d (.str (AL.S q.2))]).length = ks.length := by
            rw [List.length_map, List.length_zip]; omega
          rw [hzl, List.take_length, List.take_of_length_le (by omega)]
          refine ws_retE (x := .d (if (lawFound ks ws).length = ws.length then .tuple (.str (AL.S w0) :: lawFound ks ws) else .none)) (ev_if (p := decide ((lawFound ks ws).length = ws.length)) (et_is (et_test (ev_op (ev_lenL (ev_var rfl)) (ev_lenL (v2 _ rfl)) o_eqI)) ?_) (fun hg => ?_) fun hg => ?_) kk
          · rw [hlen, List.length_cons]
            exact decide_eq_decide.mpr (by omega)
          · rw [if_pos (of_decide_eq_true hg)]
            exact ev_cb (ea_cons (ev_var rfl) ea_nil) o_tupL
          · rw [if_neg (of_decide_eq_false hg)]
            exact ev_n
theorem ok_law_entry_of (B : BT mg) (F : Fn K "_law_entry_of" 36 f fd) (c__law_thing : DefD P w K mg base 1 "_law_thing" fThing) : FnOk P w K mg base (L2.CX P w) 2 f fd ["_law_row"] (spD K fEntryOf) :=
  gc_imp (fun xs st Φ Ψ ⟨l, e, h, k⟩ => ⟨l, e, h, fun ex => ⟨ex, rfl, ⟨_, rfl⟩, k⟩⟩) (ok_law_entry_of0 B F c__law_thing)
end
end K68


set_option Elab.async false
set_option linter.all false
set_option maxRecDepth 100000
set_option maxHeartbeats 4000000
namespace K68
open PySem PySem.Spec PyProof.Rows L2 AL
open TX (Fl okZ cut)
/-! ### plain: the law's own reading is the program's -/
theorem int_cps (i : Int) : ∀ c ∈ (toString i : Str).cps.toList, c = 45 ∨ (48 ≤ c ∧ c ≤ 57) := by
  have g : ∀ n : Nat, ∀ c ∈ n.repr.toList.map Char.toNat, 48 ≤ c ∧ c ≤ 57 := by
    intro n c hc
    rw [Nat.toList_repr] at hc
    obtain ⟨x, hx, rfl⟩ := List.mem_map.mp hc
    have h := Nat.isDigit_of_mem_toDigits (by decide) (by decide) hx
    unfold Char.isDigit at h
    simp only [Bool.and_eq_true, decide_eq_true_eq] at h
    exact ⟨h.1, h.2⟩
  have e : (toString i : Str) = Str.ofString (toString i) := rfl
  rw [e, PySem.Str.ofString_eq_toList]
  intro c hc
  have hc : c ∈ (toString i).toList.map Char.toNat := hc
  cases i with
  | ofNat n => exact Or.inr (g n c hc)
  | negSucc n =>
    have e2 : toString (Int.negSucc n) = "-" ++ (n + 1).repr := rfl
    rw [e2, String.toList_append, List.map_append] at hc
    rcases List.mem_append.mp hc with h | h
    · have : ("-" : String).toList.map Char.toNat = [45] := by decide
      rw [this] at h
      exact Or.inl (List.mem_singleton.mp h)
    · exact Or.inr (g _ c h)
def wl (l : List Nat) : List Nat := (wordOf (thingL l)).cps.toList
theorem wl_S (l : List Nat) : wordOf (thingL l) = AL.S (wl l) := (TX.S_tl _).symm
theorem not_fig47 {l : List Nat} (h : l.head? = some 47) : figsOk l = false := by
  cases l with
  | nil => cases h
  | cons c r =>
    have hc : c = 47 := by simpa using h
    subst hc
    have e : figsOf (47 :: r) = 47 :: r := by unfold figsOf; rw [if_neg (by simp)]
    unfold figsOk
    rw [e]
    have : (47 :: r).all isFig = false := by rw [List.all_cons]; have : isFig 47 = false := by decide +kernel
                                             rw [this, Bool.false_and]
    rw [this]
    simp
theorem not_fig45 : figsOk [45] = false := by decide
theorem thing_path {r : List Nat} (hr : r ≠ []) : thingL (47 :: r) = .tuple (wsD (cut 47 r)) := by
  unfold thingL
  rw [if_neg (by simp), if_pos (by rfl), if_neg (by simp [hr])]
  rfl
theorem wl_path (r : List Nat) : wordOf (thingL (47 :: r)) = AL.S (47 :: r) := by
  by_cases hr : r = []
  · subst hr
    decide +kernel
  · rw [thing_path hr]
    have e : (wsD (cut 47 r)).map strOf = (cut 47 r).map AL.S := by unfold wsD; rw [List.map_map]; rfl
    show AL.S [47] ++ Txt.join (AL.S [47]) ((wsD (cut 47 r)).map strOf) = _
    rw [e, TX.join_S, TX.join_cut]
    exact SX.S_cat _ _
theorem isWord_part (p : List Nat) : isWord (.str (AL.S p)) = lawPart p := by
  have hL : LETTERS.cps.toList = [97, 98, 99, 100, 101, 102, 103, 104, 105, 106, 107, 108, 109, 110, 111, 112, 113, 114, 115, 116, 117, 118, 119, 120, 121, 122] := by decide
  have hc : ∀ c, decide (c ∈ LETTERS.cps.toList) = isLow c := fun c => by
    rw [hL]
    unfold isLow
    have : c ∈ [97, 98, 99, 100, 101, 102, 103, 104, 105, 106, 107, 108, 109, 110, 111, 112, 113, 114, 115, 116, 117, 118, 119, 120, 121, 122] ↔ 97 ≤ c ∧ c ≤ 122 := by
      simp only [List.mem_cons, List.not_mem_nil, or_false]
      omega
    rw [decide_eq_decide.mpr this, Bool.decide_and]
  unfold isWord lawPart
  have e1 : decide ((1:Int) ≤ ((AL.S p).length : Int)) = decide (1 ≤ p.length) := decide_eq_decide.mpr (by rw [TX.S_len]; omega)
  have e2 : decide (((AL.S p).length : Int) ≤ 8) = decide (p.length ≤ 8) := decide_eq_decide.mpr (by rw [TX.S_len]; omega)
  have e3 : ((AL.S p).cps.toList.all fun c => decide (c ∈ LETTERS.cps.toList)) = p.all isLow := by
    show p.all _ = _
    congr 1
    funext c
    exact hc c
  simp only [e1, e2, e3]
theorem cut47 (r : List Nat) : cut 47 (47 :: r) = [] :: cut 47 r := TX.cut_sep r
theorem thing_cases (l : List Nat) : (l = [45] ∧ thingL l = .none) ∨ (∃ r, l = 47 :: r) ∨ (l ≠ [45] ∧ l.head? ≠ some 47 ∧ thingL l = if figsOk l = true then .int (numOf l) else .str (AL.S l)) := by
  by_cases h1 : l = [45]
  · exact Or.inl ⟨h1, by unfold thingL; rw [if_pos h1]⟩
  by_cases h2 : l.head? = some 47
  · cases l with
    | nil => cases h2
    | cons c r => exact Or.inr (Or.inl ⟨r, by simpa using h2⟩)
  · exact Or.inr (Or.inr ⟨h1, h2, by unfold thingL; rw [if_neg h1, if_neg h2]⟩)
theorem law_int {l : List Nat} {k : Kd} (hk : k = .w ∨ (k = .t ∧ l ≠ [45])) (h : ∀ r, l ≠ 47 :: r) (h45 : l ≠ [45]) : lawInt l = if (k.ok (thingL l) && decide (wl l = l)) = true then some (thingL l) else none := by
  rcases thing_cases l with ⟨e, _⟩ | ⟨r, e⟩ | ⟨_, h2, e⟩
  · exact absurd e h45
  · exact absurd e (h r)
  · by_cases hf : figsOk l = true
    · rw [if_pos hf] at e
      have e2 : wl l = (toString (numOf l) : Str).cps.toList := by unfold wl; rw [e]; rfl
      have e3 : (toString (numOf l) : Str) = AL.S l ↔ wl l = l := by
        rw [e2]
        constructor
        · intro q; rw [q]
        · intro q; rw [← TX.S_tl (toString (numOf l) : Str), q]
      have ok : k.ok (thingL l) = true := by
        rw [e]
        rcases hk with rfl | ⟨rfl, _⟩ <;> rfl
      unfold lawInt
      rw [if_pos hf, ok, Bool.true_and, e]
      by_cases q : wl l = l
      · rw [if_pos (e3.mpr q), if_pos (decide_eq_true q)]
      · rw [if_neg (fun z => q (e3.mp z)), if_neg (by simpa using q)]
    · rw [if_neg hf] at e
      have ok : k.ok (thingL l) = false := by
        rw [e]
        rcases hk with rfl | ⟨rfl, _⟩ <;> rfl
      unfold lawInt
      rw [if_neg hf, ok, Bool.false_and, if_neg (by decide)]
theorem int_nil {l : List Nat} (h : figsOk l = false) : lawInt l = none := by unfold lawInt; rw [if_neg (by rw [h]; decide)]
theorem law_thing_eq (k : Kd) (l : List Nat) : lawThing k l = if (k.ok (thingL l) && decide (wl l = l)) = true then some (thingL l) else none := by
  cases k with
  | p =>
    rcases thing_cases l with ⟨rfl, e⟩ | ⟨r, rfl⟩ | ⟨h1, h2, e⟩
    · rfl
    · by_cases hr : r = []
      · subst hr
        rfl
      · have hw : wl (47 :: r) = 47 :: r := by unfold wl; rw [wl_path]
        have e0 : lawThing .p (47 :: r) = lawPath (cut 47 (47 :: r)) := by unfold lawThing; simp only; rw [if_neg (by simp [hr])]
        rw [e0, cut47, hw, decide_eq_true rfl, Bool.and_true, thing_path hr]
        have hl : 1 ≤ (cut 47 r).length := List.length_pos_iff.mpr (TX.cut_ne 47 r)
        have e1 : Kd.ok .p (.tuple (wsD (cut 47 r))) = (decide (([] : List Nat) = []) && (decide (1 ≤ (cut 47 r).length) && decide ((cut 47 r).length ≤ 5)) && (cut 47 r).all lawPart) := by
          show (decide (((wsD (cut 47 r)).length : Int) ≤ 5) && (wsD (cut 47 r)).all isWord) = _
          have a1 : (wsD (cut 47 r)).all isWord = (cut 47 r).all lawPart := by
            unfold wsD
            rw [List.all_map]
            congr 1
            funext p
            exact isWord_part p
          have a2 : decide (((wsD (cut 47 r)).length : Int) ≤ 5) = decide ((cut 47 r).length ≤ 5) := decide_eq_decide.mpr (by unfold wsD; rw [List.length_map]; omega)
          rw [a1, a2, decide_eq_true rfl, decide_eq_true hl, Bool.true_and, Bool.true_and]
        rw [e1]
        rfl
    · have ok : Kd.ok .p (thingL l) = false := by
        rw [e]
        split <;> rfl
      rw [ok, Bool.false_and, if_neg (by decide)]
      have n47 : l ≠ [47] := fun q => h2 (by rw [q]; rfl)
      have e0 : lawThing .p l = lawPath (cut 47 l) := by unfold lawThing; simp only; rw [if_neg n47]
      rw [e0]
      cases l with
      | nil => rfl
      | cons c r =>
        have hc : c ≠ 47 := by simpa using h2
        cases q : cut 47 r with
        | nil => exact absurd q (TX.cut_ne 47 r)
        | cons a b =>
          rw [TX.cut_cons hc q]
          rfl
  | w =>
    show lawInt l = _
    rcases thing_cases l with ⟨rfl, e⟩ | ⟨r, rfl⟩ | ⟨h1, h2, e⟩
    · rw [int_nil not_fig45, e]; rfl
    · rw [int_nil (not_fig47 rfl)]
      have ok : Kd.ok .w (thingL (47 :: r)) = false := by
        by_cases hr : r = []
        · subst hr; rfl
        · rw [thing_path hr]; rfl
      rw [ok, Bool.false_and, if_neg (by decide)]
    · exact law_int (Or.inl rfl) (fun r q => h2 (by rw [q]; rfl)) h1
  | t =>
    rcases thing_cases l with ⟨rfl, e⟩ | ⟨r, rfl⟩ | ⟨h1, h2, e⟩
    · rfl
    · have e0 : lawThing .t (47 :: r) = lawInt (47 :: r) := by unfold lawThing; simp only; rw [if_neg (by simp)]
      rw [e0, int_nil (not_fig47 rfl)]
      have ok : Kd.ok .t (thingL (47 :: r)) = false := by
        by_cases hr : r = []
        · subst hr; rfl
        · rw [thing_path hr]; rfl
      rw [ok, Bool.false_and, if_neg (by decide)]
    · have e0 : lawThing .t l = lawInt l := by unfold lawThing; simp only; rw [if_neg h1]
      rw [e0]
      exact law_int (Or.inr ⟨rfl, h1⟩) (fun r q => h2 (by rw [q]; rfl)) h1
theorem wl_free {l : List Nat} (h : 32 ∉ l) : 32 ∉ wl l := by
  rcases thing_cases l with ⟨rfl, e⟩ | ⟨r, rfl⟩ | ⟨h1, h2, e⟩
  · exact h
  · have hw : wl (47 :: r) = 47 :: r := by unfold wl; rw [wl_path]
    rw [hw]; exact h
  · unfold wl
    rw [e]
    split
    · intro q
      rcases int_cps (numOf l) 32 q with q | q <;> omega
    · exact h
theorem map_fix {ws : List (List Nat)} (h : ws.map wl = ws) : ∀ w ∈ ws, wl w = w := by
  induction ws with
  | nil => intro w hw; cases hw
  | cons x r ih =>
    rw [List.map_cons] at h
    injection h with h1 h2
    intro w hw
    rcases List.mem_cons.mp hw with rfl | hw
    · exact h1
    · exact ih h2 w hw
theorem shown_iff {l w0 : List Nat} {ws : List (List Nat)} (hc : cut 32 l = w0 :: ws) : shownE (foundL l) = AL.S l ↔ ∀ w ∈ ws, wl w = w := by
  have hfr : ∀ p ∈ w0 :: ws, 32 ∉ p := fun p hp => TX.cut_free 32 l p (by rw [hc]; exact hp)
  have e1 : shownE (foundL l) = AL.S (TL.joinL [32] (w0 :: ws.map wl)) := by
    unfold shownE foundL
    rw [hc]
    simp only [List.map_cons, List.map_map]
    have : (ws.map (wordOf ∘ thingL)) = (ws.map wl).map AL.S := by
      rw [List.map_map]
      exact List.map_congr_left fun w _ => wl_S w
    rw [this]
    have e0 : wordOf (.str (AL.S w0)) = AL.S w0 := rfl
    rw [e0, ← List.map_cons, TX.join_S]
  have e2 : l = TL.joinL [32] (w0 :: ws) := by rw [← hc, TX.join_cut]
  rw [e1, S_inj]
  constructor
  · intro h
    rw [e2] at h
    have h3 := congrArg (cut 32) h
    rw [TX.cut_join (by simp) (fun p hp => ?_), TX.cut_join (by simp) hfr] at h3
    · injection h3 with _ h4
      exact map_fix h4
    · rcases List.mem_cons.mp hp with rfl | hp
      · exact hfr _ (List.mem_cons_self ..)
      · obtain ⟨w, hw, rfl⟩ := List.mem_map.mp hp
        exact wl_free (hfr w (List.mem_cons_of_mem _ hw))
  · intro h
    have : ws.map wl = ws := by
      conv => rhs; rw [← List.map_id ws]
      exact List.map_congr_left fun w hw => h w hw
    rw [this, ← e2]
theorem found_all : ∀ {ks : List Kd} {ws : List (List Nat)}, ws.length = ks.length → ((ks.zip ws).all fun q => q.1.ok (thingL q.2) && decide (wl q.2 = q.2)) = true → lawFound ks ws = ws.map thingL
  | [], [], _, _ => rfl
  | k :: ks, w :: ws, hl, h => by
    simp only [List.zip_cons_cons, List.all_cons, Bool.and_eq_true] at h
    have ih := found_all (ks := ks) (ws := ws) (by simpa using hl) (by rw [List.all_eq_true]; intro q hq; have := List.all_eq_true.mp h.2 q hq; simpa using this)
    unfold lawFound at ih ⊢
    rw [List.zip_cons_cons, List.flatMap_cons, ih, law_thing_eq, if_pos (by simpa using h.1)]
    rfl
theorem found_ge : ∀ (ks : List Kd) (ws : List (List Nat)), ws.length = ks.length → ws.length ≤ (lawFound ks ws).length ∧ (((ks.zip ws).all fun q => q.1.ok (thingL q.2) && decide (wl q.2 = q.2)) = false → ws.length < (lawFound ks ws).length)
  | [], [], _ => ⟨Nat.le_refl _, fun h => by cases h⟩
  | k :: ks, w :: ws, hl => by
    obtain ⟨h1, h2⟩ := found_ge ks ws (by simpa using hl)
    unfold lawFound at h1 h2 ⊢
    rw [List.zip_cons_cons, List.flatMap_cons, List.length_append, law_thing_eq, List.length_cons]
    by_cases h : (k.ok (thingL w) && decide (wl w = w)) = true
    · rw [if_pos h]
      refine ⟨by show _ ≤ 1 + _; omega, fun q => ?_⟩
      rw [List.all_cons] at q
      simp only [h, Bool.true_and] at q
      have := h2 q
      show _ < 1 + _
      omega
    · rw [if_neg h]
      exact ⟨by show _ ≤ 2 + _; omega, fun _ => by show _ < 2 + _; omega⟩
theorem zip_all {ks : List Kd} {ws : List (List Nat)} (hl : ws.length = ks.length) : ((ks.zip ws).all fun q => q.1.ok (thingL q.2) && decide (wl q.2 = q.2)) = (((ks.zip (ws.map thingL)).all fun q => q.1.ok q.2) && ws.all fun w => decide (wl w = w)) := by
  induction ks generalizing ws with
  | nil =>
    cases ws with
    | nil => rfl
    | cons w ws => simp at hl
  | cons k ks ih =>
    cases ws with
    | nil => simp at hl
    | cons w ws =>
      have := ih (ws := ws) (by simpa using hl)
      simp only [List.zip_cons_cons, List.all_cons, List.map_cons, this]
      cases k.ok (thingL w) <;> cases decide (wl w = w) <;> simp
theorem law_entry_eq (l : List Nat) : lawEntry l = entryL l := by
  cases hc : cut 32 l with
  | nil => exact absurd hc (TX.cut_ne _ _)
  | cons w0 ws =>
    have e0 : lawEntry l = lawRow w0 ws := by unfold lawEntry; rw [hc]
    have ef : foundL l = .str (AL.S w0) :: ws.map thingL := by unfold foundL; rw [hc]
    rw [e0]
    unfold lawRow entryL
    cases hf : formOf (AL.S w0) with
    | none =>
      have : goodL l = false := by unfold goodL; rw [ef]; simp only [isEntry, hf, Bool.false_and]
      rw [this, if_neg (by decide)]
    | some ks =>
      have eg : goodL l = ((decide (((ws.length : Nat) : Int) = ((ks.length : Nat) : Int)) && (ks.zip (ws.map thingL)).all fun q => q.1.ok q.2) && decide (shownE (foundL l) = AL.S l)) := by
        unfold goodL
        rw [ef]
        simp only [isEntry, hf, List.length_map]
      by_cases hl : ws.length = ks.length
      · rw [decide_eq_true (by omega : ((ws.length : Nat) : Int) = ((ks.length : Nat) : Int)), Bool.true_and] at eg
        have e3 : decide (shownE (foundL l) = AL.S l) = ws.all fun w => decide (wl w = w) := by
          rw [decide_eq_decide.mpr (shown_iff hc)]
          by_cases q : ∀ w ∈ ws, wl w = w
          · rw [decide_eq_true q]
            exact (List.all_eq_true.mpr fun w hw => decide_eq_true (q w hw)).symm
          · rw [decide_eq_false q]
            symm
            rw [Bool.eq_false_iff]
            exact fun z => q fun w hw => of_decide_eq_true (List.all_eq_true.mp z w hw)
        rw [e3, ← zip_all hl] at eg
        simp only [if_pos hl]
        cases hg : goodL l with
        | true =>
          rw [hg] at eg
          have e4 := found_all hl eg.symm
          rw [e4, List.length_map, if_pos rfl, if_pos rfl, ef]
        | false =>
          rw [hg] at eg
          have := (found_ge ks ws hl).2 eg.symm
          rw [if_neg (by omega), if_neg (by decide)]
      · simp only [if_neg hl]
        rw [decide_eq_false (by omega : ¬ ((ws.length : Nat) : Int) = ((ks.length : Nat) : Int)), Bool.false_and, Bool.false_and] at eg
        rw [eg, if_neg (by decide)]
section
variable {P : Program} {w : World} {K : PySem.W.Frag} {mg : Str → Option Value} {base : Heap} {f d C : Addr} {fd : FuncData} {a : Ads}
/-- the law's own reading, by the program's words -/
theorem ok_law_entry_of1 (B : BT mg) (F : Fn K "_law_entry_of" 36 f fd) (c__law_thing : DefD P w K mg base 1 "_law_thing" fThing) : FnOk P w K mg base (L2.CX P w) 2 f fd ["_law_row"] (spD K fEntryIn) := by
  have e : (fEntryOf : DS) = fEntryIn := by
    funext xs st Φ Ψ
    unfold fEntryOf fEntryIn
    simp only [law_entry_eq]
  rw [← e]
  exact ok_law_entry_of B F c__law_thing
end
end K68

set_option Elab.async false
set_option linter.all false
set_option maxRecDepth 100000
set_option maxHeartbeats 4000000
namespace K68
open PySem PySem.Spec PyProof.Rows L2 AL
open TX (Fl okZ cut)
/-! ### what is due, what is told -/
def due (x : PyData) (c : Bool) : PyData := match x with
  | .str z => match badAt (ini z.cps.toList) with
    | some i => .int (i : Nat)
    | none => if c = true then .tuple [.list (entsD (ini z.cps.toList)), .str (AL.S (lst z.cps.toList))] else if lst z.cps.toList = [] then .list (entsD (ini z.cps.toList)) else .int ((ini z.cps.toList).length : Nat)
  | _ => .int 0
def fDue0 : DS := fun xs st Φ _ => ∃ x c, xs = [.d x, dB c] ∧ okX x ∧ ∀ ex, Φ (.d (due x c)) (st ++ ex)
def fDue : DS := fun xs st Φ _ => ∃ x c, xs = [.d x, dB c] ∧ okX x ∧ Φ (.d (due x c)) st
/-- the four classes stand so -/
structure KeptF (K : PySem.W.Frag) (L C C2 C3 C4 : Addr) : Prop where
  exm : PySem.W.exmOne K (.ref C) (.ref L) = some true
  cls : ExcC K C
  k1 : PySem.W.kitOne K (.ref C) (.ref C) = some true
  k2 : PySem.W.kitAny K (.ref C) ([C2, C3, C4].map Value.ref) = some false
  xf : XfC K C
  no : PySem.W.findIn K (.ref C) "row" = some none
theorem rd_due (C : Addr) (x : PyData) (c : Bool) {Φ : PyData → Prop} {Ψ : AE → Prop} (h1 : Φ (due x c)) (h2 : ∀ i : Nat, due x c = .int i → Ψ (nt C i)) : if c = true then rdCut C x Φ Ψ else rd C x Φ Ψ := by
  cases x with
  | str z =>
    unfold due at h1 h2
    unfold rdCut rd
    simp only at h1 h2 ⊢
    cases hb : badAt (ini z.cps.toList) with
    | some i =>
      rw [hb] at h1 h2
      cases c with
      | true => exact h2 i rfl
      | false => exact h2 i rfl
    | none =>
      rw [hb] at h1 h2
      cases c with
      | true => exact h1
      | false =>
        simp only [Bool.false_eq_true, if_false] at h1 h2 ⊢
        by_cases hl : lst z.cps.toList = []
        · rw [if_pos hl] at h1 ⊢
          exact h1
        · rw [if_neg hl] at h2 ⊢
          exact h2 _ rfl
  | _ =>
    cases c with
    | true => exact h2 0 rfl
    | false => exact h2 0 rfl
theorem due_cut (C : Addr) (x : PyData) {Φ : PyData → Prop} {Ψ : AE → Prop} (h1 : Φ (due x true)) (h2 : ∀ i : Nat, due x true = .int i → Ψ (nt C i)) : rdCut C x Φ Ψ := by
  have := rd_due C x true h1 h2
  rwa [if_pos rfl] at this
theorem due_rd (C : Addr) (x : PyData) {Φ : PyData → Prop} {Ψ : AE → Prop} (h1 : Φ (due x false)) (h2 : ∀ i : Nat, due x false = .int i → Ψ (nt C i)) : rd C x Φ Ψ := by
  have := rd_due C x false h1 h2
  rwa [if_neg (by decide)] at this
theorem wx_ifE {K : PySem.W.Frag} {b : Cf} {tt : TT} {ta tc : TE} {sl : Sl} {st : Sto} {Φ : AV → Sto → Prop} {p : Bool} (h : Et K tt sl st p) (h1 : p = true → Wx K b ta sl st Φ) (h2 : p = false → Wx K b tc sl st Φ) : Wx K b (tIf tt ta tc) sl st Φ := wx_if (wt_of h (by
  cases p with
  | true => rw [if_pos rfl]; exact h1 rfl
  | false => rw [if_neg (by decide)]; exact h2 rfl))
section
variable {P : Program} {w : World} {K : PySem.W.Frag} {mg : Str → Option Value} {base : Heap} {f d C L C2 C3 C4 : Addr} {fd : FuncData} {a : Ads}
theorem sc_law_due : FnScope ["_law_line", "_law_cut", "_law_rows", "_law_found", "_law_at", "_law_row", "_law_entry_here"] ["_law_line", "_law_cut"] (defScope (top 37)) := C8.fnScope_by (by decide +kernel)
theorem sc_law_told : FnScope ["_law_line", "_law_cut", "_law_kept", "e"] ["_law_line", "_law_cut"] (defScope (top 38)) := C8.fnScope_by (by decide +kernel)
theorem ok_law_due0 (B : BT mg) (F : Fn K "_law_due" 37 f fd) (c__law_entry_of : DefD P w K mg base 2 "_law_entry_of" fEntryIn) : FnOk P w K mg base (L2.CX P w) 3 f fd ["_law_line", "_law_cut"] (spD K fDue0) := by
  refine fn_D F sc_law_due (fun xs st Φ Ψ h => ?_) (fun cdv A outer s H E hr => ⟨_, (pss_cons (ps_if (pt_not (pt_val (x_is (K := K) B (pv 0) (ty_str B)))) (pss_one (ps_ret pe_int)) pss_nil)
      (pss_cons (ps_set (i := 2) sc_law_due.nd rfl (Or.inl rfl) (x_split (K := K) (pv 0) (pa_cons pe_str pa_nil)))
      (pss_cons (ps_set (i := 3) sc_law_due.nd rfl (Or.inl rfl) (pe_lst pa_nil))
      (pss_cons (ps_for (passes_of rfl) rfl (x_enum B (x_sl (K := K) (pv 2) po_none (po_some (x_neg pe_int)))) (pg_tup rfl (pgs_cons (pg_name (i := 4) sc_law_due.nd rfl (Or.inl rfl)) (pgs_cons (pg_name (i := 5) sc_law_due.nd rfl (Or.inl rfl)) pgs_nil))) (pss_cons (ps_set (i := 6) sc_law_due.nd rfl (Or.inl rfl) (pe_f c__law_entry_of hr takesD (pa_cons (pv 5) pa_nil)))
      (pss_cons (ps_if (t_isN (pv 6) pe_non) (pss_one (ps_ret (pv 4))) pss_nil)
      (pss_one (ps_expr (x_app (K := K) (pv 3) (pa_cons (pv 6) pa_nil)))))))
      (pss_cons (ps_if (t_tru (K := K) (pv 1)) (pss_one (ps_ret (pe_tup (pa_cons (pv 3) (pa_cons (x_ix (K := K) (pv 2) (x_neg pe_int)) pa_nil))))) pss_nil)
      (pss_one (ps_ret (pe_ifExp (t_eq (K := K) hr.units (x_ix (K := K) (pv 2) (x_neg pe_int)) pe_str) (pv 3) (x_len (K := K) B (pv 3)))))))))), fun b xs st Φ Ψ h hW => ?_⟩)
  · obtain ⟨_, _, rfl, _⟩ := h
    rfl
  · obtain ⟨x, c, rfl, hx, k⟩ := h
    cases x with
    | str z =>
      have hz : z = AL.S z.cps.toList := (TX.S_tl z).symm
      generalize hl : z.cps.toList = l at hz
      have hok : okL l := by rw [← hl]; exact hx
      subst hz
      obtain ⟨h1, h2⟩ := ini_ok hok
      have ed : due (.str (AL.S l)) c = match badAt (ini l) with
        | some i => .int (i : Nat)
        | none => if c = true then .tuple [.list (entsD (ini l)), .str (AL.S (lst l))] else if lst l = [] then .list (entsD (ini l)) else .int ((ini l).length : Nat) := rfl
      rw [ed] at k
      refine ws_guard (et_not (et_B (ev_isS (x := .str (AL.S l)) (ev_var rfl)))) (fun hp => by cases hp) (fun _ => ?_)
      have es : Ev K (tBM K "str" rSPLIT (tVar 0) (tCons (tC (.str "\n")) tNil)) [some (dS (AL.S l)), some (dB c), none, none, none, none, none] st (dL (rowsD (ini l) ++ [.str (AL.S (lst l))])) := by
        have := ev_bm (ev_var (sl := [some (dS (AL.S l)), some (dB c), none, none, none, none, none]) (i := 0) rfl) (ea_cons (ev_s (z := AL.S [10])) ea_nil) (o_split (K := K) (st := st) (a := AL.S l) (b := AL.S [10]) rfl (by rw [TX.S_len]; have := hok.1; omega))
        rw [TX.split_cut (by decide), List.map_map, rows_eq, List.map_append] at this
        exact this
      refine ws_asgS es ?_
      refine ws_sq (ws_asg (wx_lst (xs := []) ea_nil (by decide) ?_))
      have v2 : ∀ (sl : Sl) (st' : Sto), sl[2]? = some (some (dL (rowsD (ini l) ++ [.str (AL.S (lst l))]))) → Ev K (tVar 2) sl st' (dL (rowsD (ini l) ++ [.str (AL.S (lst l))])) := fun sl st' h => ev_var h
      have e1 : ∀ (sl : Sl) (st' : Sto), sl[2]? = some (some (dL (rowsD (ini l) ++ [.str (AL.S (lst l))]))) → Ev K (tSl (rSL K) (tVar 2) tNoPart (tPart (tUn (rU fun i => .int (-i)) (tC (.int 1))))) sl st' (dL (rowsD (ini l))) := fun sl st' h => by
        have := ev_sl (r := rSL K) (v2 sl st' h) eo_none (eo_some (ev_neg (ev_i (i := 1)))) o_slL
        rw [cutD_init] at this
        exact this
      have e9 : ∀ (sl : Sl) (st' : Sto), sl[2]? = some (some (dL (rowsD (ini l) ++ [.str (AL.S (lst l))]))) → Ev K (tOp (rIx K) (tVar 2) (tUn (rU fun i => .int (-i)) (tC (.int 1)))) sl st' (dS (AL.S (lst l))) := fun sl st' h => ev_op (v2 sl st' h) (ev_neg (ev_i (i := 1))) (o_ixL (atI_last _ _))
      refine ws_sq (ws_for (wi_of (ei_enum (ea_cons (e1 _ _ rfl) ea_nil)) ⟨fun i sl1 st1 => (∃ x4 x5 x6, sl1 = [some (dS (AL.S l)), some (dB c), some (dL (rowsD (ini l) ++ [.str (AL.S (lst l))])), some (.o st.length), x4, x5, x6]) ∧ st1 = st ++ [.lst ((entsD ((ini l).take i)).map AV.d)] ∧ ∀ j x, j < i → (ini l)[j]? = some x → goodL x = true, ⟨⟨none, none, none, rfl⟩, rfl, fun j x hj => absurd hj (Nat.not_lt_zero _)⟩, ?_, ?_⟩))
      · rintro i x sl1 st1 hxi ⟨⟨x4, x5, x6, rfl⟩, rfl, hg⟩
        rw [List.getElem?_map, enumD_get] at hxi
        unfold rowsD at hxi
        rw [List.getElem?_map] at hxi
        cases hi : (ini l)[i]? with
        | none => rw [hi] at hxi; cases hxi
        | some r =>
          rw [hi] at hxi
          cases hxi
          have hro := h1.2 r (List.mem_of_getElem? hi)
          have hlen := h1.1
          refine ⟨_, _, eg_tup (ds := [_, _]) (egs_cons eg_name (egs_cons eg_name egs_nil)) rfl, ?_⟩
          refine ws_asgS (x := .d (entryL r)) (ev_cal rnil (ea_cons (ev_var rfl) ea_nil) ⟨r, rfl, hro, rfl, rfl⟩) ?_
          refine ws_guard (et_test (ev_op (ev_var rfl) ev_n o_isN)) (fun hn => ?_) (fun hn => ?_)
          · have hbad : goodL r = false := by
              cases hgl : goodL r with
              | false => rfl
              | true =>
                unfold entryL at hn
                rw [if_pos hgl] at hn
                cases hn
            have e := bad_at hi hbad hg
            rw [e] at k
            refine ws_retE (ev_var rfl) ?_
            have := k [.lst ((entsD ((ini l).take i)).map AV.d)]
            simpa using this
          · have hgood : goodL r = true := by
              cases hgl : goodL r with
              | true => rfl
              | false =>
                unfold entryL at hn
                rw [if_neg (by rw [hgl]; decide)] at hn
                cases hn
            have ee : entryL r = .tuple (foundL r) := by unfold entryL; rw [if_pos hgood]
            have n1 : (st ++ [AO.lst ((entsD ((ini l).take i)).map AV.d)])[st.length]? = some (.lst ((entsD ((ini l).take i)).map AV.d)) := by simp
            refine ws_app (n := st.length) (ev_var rfl) (wx_of (ev_var rfl) ⟨_, n1, ?_, ⟨⟨_, _, _, rfl⟩, ?_, ?_⟩⟩) ⟨_, n1⟩
            · unfold entsD
              rw [List.length_map, List.length_map, List.length_take]
              omega
            · have et : (ini l).take (i + 1) = (ini l).take i ++ [r] := take_get hi
              rw [et, ee]
              simp [entsD]
            · intro j x hj hx
              by_cases h : j < i
              · exact hg j x h hx
              · have : j = i := by omega
                subst this
                rw [hi] at hx
                cases hx
                exact hgood
      · rintro sl1 st1 ⟨⟨x4, x5, x6, rfl⟩, rfl, hg⟩
        have hlen2 : ((enumD 0 (rowsD (ini l))).map AV.d).length = (ini l).length := by rw [List.length_map, enumD_len]; unfold rowsD; rw [List.length_map]
        rw [hlen2, List.take_length]
        rw [hlen2] at hg
        have e := bad_all (ls := ini l) fun j x hx => hg j x (List.getElem?_eq_some_iff.mp hx).1 hx
        rw [e] at k
        refine ws_kill (i := st.length) (j := 3) (ds := entsD (ini l)) rfl (by simp) ?_
        have k := k [.dead]
        have est : (st ++ [AO.lst ((entsD (ini l)).map AV.d)]).set st.length .dead = st ++ [.dead] := by simp
        rw [est]
        refine ws_guard (et_tru (d := .bool c) (ev_var rfl)) (fun hp => ?_) (fun hp => ?_)
        · have hp : c = true := hp
          subst hp
          exact ws_retE (ev_tup (ds := [_, _]) (ea_cons (ev_var rfl) (ea_cons (e9 _ _ rfl) ea_nil)) (Nat.le_of_ble_eq_true rfl)) k
        · have hp : c = false := hp
          subst hp
          simp only [Bool.false_eq_true, if_false] at k
          refine ws_retE (x := .d (if lst l = [] then .list (entsD (ini l)) else .int ((ini l).length : Nat))) (ev_if (p := decide (lst l = [])) (et_is (et_test (ev_op (e9 _ _ rfl) ev_s (o_eqS (y := AL.S [])))) (decide_eq_decide.mpr S_inj)) (fun h => ?_) fun h => ?_) k
          · rw [if_pos (of_decide_eq_true h)]
            exact ev_var rfl
          · rw [if_neg (of_decide_eq_false h)]
            have e5 : (entsD (ini l)).length = (ini l).length := by unfold entsD; rw [List.length_map]
            rw [← e5]
            exact ev_lenL (ev_var rfl)
    | _ => exact ws_guard (et_not (et_B (ev_isS (ev_var rfl)))) (fun _ => ws_retE ev_i (by have := k []; rw [List.append_nil] at this; exact this)) (fun hp => by cases hp)
theorem ok_law_due (B : BT mg) (F : Fn K "_law_due" 37 f fd) (c__law_entry_of : DefD P w K mg base 2 "_law_entry_of" fEntryIn) : FnOk P w K mg base (L2.CX P w) 3 f fd ["_law_line", "_law_cut"] (spD K fDue) :=
  gc_imp (fun xs st Φ Ψ ⟨x, c, e, h, k⟩ => ⟨x, c, e, h, fun ex => ⟨ex, rfl, ⟨_, rfl⟩, k⟩⟩) (ok_law_due0 B F c__law_entry_of)
theorem ok_law_told0 (B : BT mg) (F : Fn K "_law_told" 38 f fd) (c_read_cut : DefD P w K mg base 6 "read_cut" (fReadCut C)) (c_read : DefD P w K mg base 7 "read" (fRead C)) (KF : KeptF K L C C2 C3 C4) (m_LeaseError : mg "LeaseError" = some (.ref L))
    (g_NoText : ∃ u, mg "NoText" = some u ∧ RelV (.ref C) u) (g_NoEntry : ∃ u, mg "NoEntry" = some u ∧ RelV (.ref C2) u) (g_NoRow : ∃ u, mg "NoRow" = some u ∧ RelV (.ref C3) u) (g_NoSigns : ∃ u, mg "NoSigns" = some u ∧ RelV (.ref C4) u) : FnOk P w K mg base (L2.CX P w) 8 f fd ["_law_line", "_law_cut"] (spD K fDue0) := by
  refine fn_D F sc_law_told (fun xs st Φ Ψ h => ?_) (fun cdv A outer s H E hr => ⟨_, (pss_cons (ps_set (i := 2) sc_law_told.nd rfl (Or.inl rfl) pe_non)
      (pss_cons (ps_try_keep (i := 3) (ts := fun _ _ _ => tAsg (tVar 3) (gName 2)) rfl rfl sc_law_told.nd rfl rfl ⟨rfl, by decide, Or.inl m_LeaseError⟩ takesD rfl (fun W pn xe tk hp => (pss_one (ps_ret (pe_ifExp (t_tru (K := K) (pv 1)) (pe_f c_read_cut hr tk (pa_cons (pv 0) pa_nil)) (pe_f c_read hr tk (pa_cons (pv 0) pa_nil)))))) (fun _ _ _ _ _ _ _ => pss_one (ps_set (i := 2) sc_law_told.nd rfl (Or.inl rfl) (pv 3))))
      (pss_cons (ps_if (PW.pt (pw_or (pt_not (pt_val (x_isX (K := K) B (pv 2) (C8.pe_gc rfl g_NoText)))) (pw_or1 (pt_val (x_isXT (K := K) B (pv 2) (pe_tup (pa_cons (C8.pe_gc rfl g_NoEntry) (pa_cons (C8.pe_gc rfl g_NoRow) (pa_cons (C8.pe_gc rfl g_NoSigns) pa_nil))))))))) (pss_one (ps_ret pe_str)) pss_nil)
      (pss_one (ps_ret (x_xk (K := K) (pv 2))))))), fun b xs st Φ Ψ h hW => ?_⟩)
  · obtain ⟨_, _, rfl, _⟩ := h
    rfl
  · obtain ⟨x, c, rfl, hx, k⟩ := h
    refine ws_asgS ev_n ?_
    refine ws_sq (ws_keep (K := K) (c := .ref L) (i := 3) (j := 2) (tb := fun W => tRet (tIf (fun σ H Q => tVar 1 σ H fun x H' => ∃ k, TruV K x H' k ∧ Q k H') (tCalW (spD K (fReadCut C)) [] W (tCons (tVar 0) tNil)) (tCalW (spD K (fRead C)) [] W (tCons (tVar 0) tNil)))) hW (by decide) (Nat.le_of_ble_eq_true rfl) fun b1 W tb hW1 => ?_)
    have hk0 : Φ (.d (due x c)) st := by have := k []; rw [List.append_nil] at this; exact this
    cases c with
    | true =>
      refine ws_ret (wx_ifE (p := true) (et_tru (d := .bool true) (ev_var rfl)) (fun _ => wx_cal hW1 rnil (wa_of (ea_cons (ev_var rfl) ea_nil) ⟨x, rfl, hx, ?_⟩)) fun h => by cases h)
      refine due_cut C x hk0 fun i hi => ⟨true, KF.exm, fun _ => ⟨rfl, ?_⟩, fun h => by cases h⟩
      have hn : (st ++ [AO.exc (.ref C) [("row", dI i)]])[st.length]? = some (.exc (.ref C) [("row", dI i)]) := by simp
      refine ws_guard (p := false) (et_or (p := false) (q := false) (et_not (et_B (ev_cb (ea_cons (ev_var rfl) (ea_cons ev_raw ea_nil)) (o_isX hn KF.cls KF.k1)))) fun _ => et_B (ev_isXT (Cs := [C2, C3, C4]) (ev_var rfl) (ea_cons ev_raw (ea_cons ev_raw (ea_cons ev_raw ea_nil))) (Nat.le_of_ble_eq_true rfl) hn KF.cls KF.k2)) (fun h => by cases h) fun _ => ?_
      refine ws_retE (ev_xk (ev_var rfl) hn KF.xf KF.no rfl) ?_
      have := k [AO.exc (.ref C) [("row", dI i)]]
      rw [hi] at this
      exact this
    | false =>
      refine ws_ret (wx_ifE (p := false) (et_tru (d := .bool false) (ev_var rfl)) (fun h => by cases h) fun _ => wx_cal hW1 rnil (wa_of (ea_cons (ev_var rfl) ea_nil) ⟨x, rfl, hx, ?_⟩))
      refine due_rd C x hk0 fun i hi => ⟨true, KF.exm, fun _ => ⟨rfl, ?_⟩, fun h => by cases h⟩
      have hn : (st ++ [AO.exc (.ref C) [("row", dI i)]])[st.length]? = some (.exc (.ref C) [("row", dI i)]) := by simp
      refine ws_guard (p := false) (et_or (p := false) (q := false) (et_not (et_B (ev_cb (ea_cons (ev_var rfl) (ea_cons ev_raw ea_nil)) (o_isX hn KF.cls KF.k1)))) fun _ => et_B (ev_isXT (Cs := [C2, C3, C4]) (ev_var rfl) (ea_cons ev_raw (ea_cons ev_raw (ea_cons ev_raw ea_nil))) (Nat.le_of_ble_eq_true rfl) hn KF.cls KF.k2)) (fun h => by cases h) fun _ => ?_
      refine ws_retE (ev_xk (ev_var rfl) hn KF.xf KF.no rfl) ?_
      have := k [AO.exc (.ref C) [("row", dI i)]]
      rw [hi] at this
      exact this
theorem ok_law_told (B : BT mg) (F : Fn K "_law_told" 38 f fd) (c_read_cut : DefD P w K mg base 6 "read_cut" (fReadCut C)) (c_read : DefD P w K mg base 7 "read" (fRead C)) (KF : KeptF K L C C2 C3 C4) (m_LeaseError : mg "LeaseError" = some (.ref L))
    (g_NoText : ∃ u, mg "NoText" = some u ∧ RelV (.ref C) u) (g_NoEntry : ∃ u, mg "NoEntry" = some u ∧ RelV (.ref C2) u) (g_NoRow : ∃ u, mg "NoRow" = some u ∧ RelV (.ref C3) u) (g_NoSigns : ∃ u, mg "NoSigns" = some u ∧ RelV (.ref C4) u) : FnOk P w K mg base (L2.CX P w) 8 f fd ["_law_line", "_law_cut"] (spD K fDue) :=
  gc_imp (fun xs st Φ Ψ ⟨x, c, e, h, k⟩ => ⟨x, c, e, h, fun ex => ⟨ex, rfl, ⟨_, rfl⟩, k⟩⟩) (ok_law_told0 B F c_read_cut c_read KF m_LeaseError g_NoText g_NoEntry g_NoRow g_NoSigns)
end
end K68

set_option Elab.async false
set_option linter.all false
set_option maxRecDepth 100000
set_option maxHeartbeats 4000000
namespace K68
open PySem PySem.Spec PyProof.Rows L2 AL
open TX (Fl okZ cut)
/-! ### what is shown is short -/
theorem leavesAll (B : Nat) : ∀ xs : List PyData, PyData.leavesShortAll B xs = xs.all (PyData.leavesShort B)
  | [] => by simp only [PyData.leavesShortAll, List.all_nil]
  | x :: xs => by simp only [PyData.leavesShortAll, List.all_cons, leavesAll B xs]
theorem showsAll : ∀ xs : List PyData, PyData.showableAll xs = xs.all PyData.showable
  | [] => by simp only [PyData.showableAll, List.all_nil]
  | x :: xs => by simp only [PyData.showableAll, List.all_cons, showsAll xs]
theorem weightsAll : ∀ xs : List PyData, PyData.weightAll xs = (xs.map PyData.weight).sum + xs.length
  | [] => by simp only [PyData.weightAll, List.map_nil, List.sum_nil, List.length_nil]
  | x :: xs => by simp only [PyData.weightAll, List.map_cons, List.sum_cons, List.length_cons, weightsAll xs]; omega
def Sh (d : PyData) : Prop := d.leavesShort 31 = true ∧ d.showable = true
theorem sh_list {xs : List PyData} (h : ∀ d ∈ xs, Sh d) : Sh (.list xs) := ⟨by
  simp only [PyData.leavesShort, leavesAll]
  exact List.all_eq_true.mpr fun d hd => (h d hd).1, by
  simp only [PyData.showable, showsAll]
  exact List.all_eq_true.mpr fun d hd => (h d hd).2⟩
theorem sh_tup {xs : List PyData} (h : ∀ d ∈ xs, Sh d) : Sh (.tuple xs) := ⟨by
  simp only [PyData.leavesShort, leavesAll]
  exact List.all_eq_true.mpr fun d hd => (h d hd).1, by
  simp only [PyData.showable, showsAll]
  exact List.all_eq_true.mpr fun d hd => (h d hd).2⟩
theorem sh_none : Sh .none := ⟨by simp only [PyData.leavesShort], by simp only [PyData.showable]⟩
theorem sh_str {l : List Nat} (h : ∀ c ∈ l, c < 1114112) : Sh (.str (AL.S l)) := ⟨by
  simp only [PyData.leavesShort]
  exact List.all_eq_true.mpr fun c hc => decide_eq_true (Nat.lt_trans (h c hc) (by decide)), by simp only [PyData.showable]⟩
theorem sh_int {i : Int} (h : i.natAbs < 10 ^ 30) : Sh (.int i) := ⟨by
  simp only [PyData.leavesShort, PyData.shown]
  refine decide_eq_true ?_
  show (Str.ofString (toString i)).length ≤ 31
  rw [PySem.ofString_length]
  exact PySem.int_text_length_le10 (by decide) h, by
  simp only [PyData.showable]
  exact decide_eq_true (log_of h)⟩
theorem val_lt2 {cs : List Nat} (h : NumText.AllDigits cs) : NumText.digitsVal cs < 10 ^ cs.length := by
  have := digits_lt cs 0 fun c hc => (h c hc).2
  rw [Nat.zero_add, Nat.one_mul] at this
  exact this
theorem num_lt2 {l : List Nat} (h : figsOk l = true) : (numOf l).natAbs < 10 ^ l.length := by
  unfold figsOk at h
  simp only [Bool.not_eq_true', Bool.or_eq_false_iff, decide_eq_false_iff_not, Bool.not_eq_false'] at h
  obtain ⟨h1, h2, h3⟩ := h
  unfold figsOf at h1 h2 h3
  unfold numOf
  by_cases hh : l.head? = some 45
  · rw [if_pos hh] at h1 h2 h3 ⊢
    have := val_lt2 (figs_all h3)
    have h4 : (10:Nat) ^ (l.drop 1).length ≤ 10 ^ l.length := Nat.pow_le_pow_right (by decide) (by rw [List.length_drop]; omega)
    omega
  · rw [if_neg hh] at h1 h2 h3 ⊢
    have := val_lt2 (figs_all h3)
    omega
theorem weight_int {i : Int} {n : Nat} (h : i.natAbs < 10 ^ n) : (PyData.int i).weight ≤ 4 * n := by
  simp only [PyData.weight]
  split
  · omega
  · rename_i h0
    have h0 : i.natAbs ≠ 0 := fun z => h0 (by have : i = 0 := by omega
                                              rw [this]; rfl)
    have h1 : i.natAbs < 2 ^ (4 * n) := by
      rw [Nat.pow_mul]
      exact Nat.lt_of_lt_of_le h (Nat.pow_le_pow_left (by decide) n)
    have := (Nat.log2_lt h0).mpr h1
    omega
theorem weight_str (l : List Nat) : (PyData.str (AL.S l)).weight = l.length := by
  simp only [PyData.weight]
  exact TX.S_len l
theorem thing_sh {l : List Nat} (h : okL l) : Sh (thingL l) ∧ (thingL l).weight ≤ 4 * l.length + 1 := by
  rcases thing_cases l with ⟨rfl, e⟩ | ⟨r, rfl⟩ | ⟨h1, h2, e⟩
  · rw [e]
    exact ⟨sh_none, by simp only [PyData.weight]; omega⟩
  · by_cases hr : r = []
    · subst hr
      have e : thingL [47] = .tuple [] := by
        unfold thingL
        rw [if_neg (by simp), if_pos (by rfl), if_pos rfl]
      rw [e]
      exact ⟨sh_tup (fun d hd => by cases hd), by decide⟩
    · rw [thing_path hr]
      have hr2 : okL r := ok_drop 1 h
      refine ⟨sh_tup fun d hd => ?_, ?_⟩
      · unfold wsD at hd
        obtain ⟨p, hp, rfl⟩ := List.mem_map.mp hd
        exact sh_str (ok_cut hr2 hp).2
      · simp only [PyData.weight, weightsAll]
        have e2 : (wsD (cut 47 r)).map PyData.weight = (cut 47 r).map List.length := by
          unfold wsD
          rw [List.map_map]
          exact List.map_congr_left fun p _ => weight_str p
        rw [e2]
        unfold wsD
        rw [List.length_map, TX.cut_sum, List.length_cons]
        omega
  · rw [e]
    by_cases hf : figsOk l = true
    · rw [if_pos hf]
      exact ⟨sh_int (num_lt hf), Nat.le_trans (weight_int (num_lt2 hf)) (by omega)⟩
    · rw [if_neg hf]
      exact ⟨sh_str h.2, by rw [weight_str]; omega⟩
theorem things_weight : ∀ {ws : List (List Nat)}, (∀ w ∈ ws, okL w) → ((ws.map thingL).map PyData.weight).sum ≤ 4 * (ws.map List.length).sum + ws.length
  | [], _ => by simp
  | w :: ws, h => by
    have h1 := (thing_sh (h w (List.mem_cons_self ..))).2
    have h2 := things_weight (ws := ws) fun x hx => h x (List.mem_cons_of_mem _ hx)
    simp only [List.map_cons, List.sum_cons, List.length_cons] at h2 ⊢
    omega
theorem found_sh {l : List Nat} (h : okL l) : Sh (.tuple (foundL l)) ∧ (PyData.tuple (foundL l)).weight ≤ 4 * (l.length + 1) := by
  have hs := TX.cut_sum 32 l
  have hm : ∀ p ∈ cut 32 l, okL p := fun p hp => ok_cut h hp
  unfold foundL
  cases hc : cut 32 l with
  | nil => exact absurd hc (TX.cut_ne _ _)
  | cons w0 ws =>
    rw [hc] at hs hm
    refine ⟨sh_tup fun d hd => ?_, ?_⟩
    · rcases List.mem_cons.mp hd with rfl | hd
      · exact sh_str (hm w0 (List.mem_cons_self ..)).2
      · obtain ⟨p, hp, rfl⟩ := List.mem_map.mp hd
        exact (thing_sh (hm p (List.mem_cons_of_mem _ hp))).1
    · have h2 := things_weight (ws := ws) fun x hx => hm x (List.mem_cons_of_mem _ hx)
      simp only [PyData.weight, weightsAll, List.map_cons, List.sum_cons, List.length_cons, List.length_map] at hs ⊢
      have : (AL.S w0).cps.size = w0.length := TX.S_len w0
      rw [this]
      omega
theorem ents_sh : ∀ {ls : List (List Nat)}, (∀ l ∈ ls, okL l) → (∀ d ∈ entsD ls, Sh d) ∧ ((entsD ls).map PyData.weight).sum ≤ 4 * ((ls.map List.length).sum + ls.length)
  | [], _ => ⟨(fun d hd => by cases hd), by simp [entsD]⟩
  | l :: ls, h => by
    obtain ⟨h1, h2⟩ := found_sh (h l (List.mem_cons_self ..))
    obtain ⟨h3, h4⟩ := ents_sh (ls := ls) fun x hx => h x (List.mem_cons_of_mem _ hx)
    unfold entsD at h3 h4 ⊢
    refine ⟨fun d hd => ?_, ?_⟩
    · rcases List.mem_cons.mp hd with rfl | hd
      · exact h1
      · exact h3 d hd
    · simp only [List.map_cons, List.sum_cons, List.length_cons] at h4 ⊢
      omega
theorem ents_fl {ls : List (List Nat)} (h : ∀ l ∈ ls, okL l) : Fl 3 (.list (entsD ls)) := fun d hd => by
  obtain ⟨l, hl, rfl⟩ := List.mem_map.mp hd
  exact found_fl (h l hl)
def Showy (d : PyData) : Prop := d.showable = true ∧ d.depth ≤ 60 ∧ d.shown.length ≤ sizeLine
theorem showy_of {d : PyData} {n : Nat} (h : Sh d) (f : Fl n d) (hn : n ≤ 60) (w : d.weight ≤ 100000) : Showy d := by
  refine ⟨h.2, Nat.le_trans (TX.lay_fl n d f).2 hn, ?_⟩
  have := PyData.shown_le 31 (by decide) d h.1
  rw [sizeLine_eq]
  omega
theorem sm_ok {n : Nat} {l : List Nat} (h : sm n l) (hn : n ≤ 20000) : okL l := ⟨Nat.le_trans h.1 hn, fun c hc => Nat.lt_trans (h.2 c hc) (by decide)⟩
theorem due_nontext {x : PyData} (c : Bool) (h : isStrD x = false) : due x c = .int 0 := by
  cases x with
  | str z => cases h
  | _ => rfl
theorem showy_nat {n : Nat} (h : n ≤ 20001) : Showy (.int (n : Nat)) := by
  have hn : ((n : Nat) : Int).natAbs < 10 ^ 5 := by omega
  refine showy_of (n := 0) (sh_int (Nat.lt_of_lt_of_le hn (by decide))) trivial (by decide) (Nat.le_trans (weight_int hn) (by decide))
theorem due_showy {l : List Nat} (c : Bool) (h : okL l) (hl : l.length ≤ 5000) : Showy (due (.str (AL.S l)) c) := by
  obtain ⟨⟨h1, h2⟩, h3⟩ := ini_ok h
  have hc := TX.cut_sum 10 l
  rw [rows_eq, List.map_append, List.sum_append, List.length_append] at hc
  simp only [List.map_cons, List.map_nil, List.sum_cons, List.sum_nil, List.length_singleton] at hc
  have ed : due (.str (AL.S l)) c = match badAt (ini l) with
    | some i => .int (i : Nat)
    | none => if c = true then .tuple [.list (entsD (ini l)), .str (AL.S (lst l))] else if lst l = [] then .list (entsD (ini l)) else .int ((ini l).length : Nat) := rfl
  rw [ed]
  have bl : ∀ {ls : List (List Nat)} {i : Nat}, badAt ls = some i → i < ls.length := by
    intro ls
    induction ls with
    | nil => intro i hi; cases hi
    | cons x r ih =>
      intro i hi
      unfold badAt at hi
      split at hi
      · cases hb : badAt r with
        | none => rw [hb] at hi; cases hi
        | some j =>
          rw [hb] at hi
          cases hi
          have := ih hb
          simp
          exact this
      · cases hi
        simp
  obtain ⟨s1, s2⟩ := ents_sh h2
  have el : (entsD (ini l)).length = (ini l).length := by unfold entsD; rw [List.length_map]
  cases hb : badAt (ini l) with
  | some i => exact showy_nat (by have := bl hb; omega)
  | none =>
    simp only
    split
    · refine showy_of (n := 4) (sh_tup fun d hd => ?_) (fun d hd => ?_) (by decide) ?_
      · simp only [List.mem_cons, List.not_mem_nil, or_false] at hd
        rcases hd with rfl | rfl
        · exact sh_list s1
        · exact sh_str h3.2
      · simp only [List.mem_cons, List.not_mem_nil, or_false] at hd
        rcases hd with rfl | rfl
        · exact ents_fl h2
        · exact okZ_of h3
      · simp only [PyData.weight, weightsAll, List.map_cons, List.map_nil, List.sum_cons, List.sum_nil, List.length_cons, List.length_nil]
        have : (AL.S (lst l)).cps.size = (lst l).length := TX.S_len _
        rw [this, el]
        omega
    · split
      · refine showy_of (n := 3) (sh_list s1) (ents_fl h2) (by decide) ?_
        simp only [PyData.weight, weightsAll]
        rw [el]
        omega
      · exact showy_nat (by omega)
/-- what the law reads -/
def It (d : PyData) : Prop := (∃ l, d = .str (AL.S l) ∧ sm 5000 l) ∨ isStrD d = false
theorem it_s (z : Str) (h : sm 5000 z.cps.toList) : It (.str z) := Or.inl ⟨z.cps.toList, congrArg PyData.str (TX.S_tl z).symm, h⟩
theorem it_ok {d : PyData} (h : It d) : okX d := by
  rcases h with ⟨l, rfl, h⟩ | h
  · exact sm_ok h (by decide)
  · cases d with
    | str z => cases h
    | _ => trivial
theorem it_showy {d : PyData} (c : Bool) (h : It d) : Showy (due d c) := by
  rcases h with ⟨l, rfl, h⟩ | h
  · exact due_showy c (sm_ok h (by decide)) h.1
  · rw [due_nontext c h]
    exact showy_nat (n := 0) (by decide)
end K68

set_option Elab.async false
set_option linter.all false
set_option maxRecDepth 100000
set_option maxHeartbeats 4000000
namespace K68
open PySem PySem.Spec PyProof.Rows L2 AL
open TX (Fl okZ cut)
/-! ### the law -/
def D0 : List PyData := [.str "", .str "\n", .str "make /a", .str "make /a\n\n", .str "make\n", .str "make /a \n", .str " make /a\n", .str "make  /a\n", .str "zz /a\n"]
def N30 : List Nat := [110, 117, 109, 98, 101, 114, 32] ++ List.replicate 30 49 ++ [10]
def D1 : List PyData := [.str "clear -\n", .str (AL.S N30), .str "zz\nmake\n", .str "make /a\nzz\nmake\n"]
def D2 : List PyData := [.str "raise 1 2 -\n", .str "raise 1 2 -0\n", .str "drop /a -5\n", .none, .int 5, .list [], .tuple [.str "make /a\n"], .bool true]
def itB (d : PyData) : Bool := match d with
  | .str z => decide (z.cps.toList.length ≤ 5000) && z.cps.toList.all fun c => decide (c < 128)
  | _ => true
theorem it_of {d : PyData} (h : itB d = true) : It d := by
  cases d with
  | str z =>
    simp only [itB, Bool.and_eq_true, decide_eq_true_eq, List.all_eq_true] at h
    exact it_s z ⟨h.1, h.2⟩
  | _ => exact Or.inr rfl
theorem it_D : ∀ d ∈ D0 ++ D1 ++ D2, It d := fun d hd => it_of (by
  have : (D0 ++ D1 ++ D2).all itB = true := by decide +kernel
  exact List.all_eq_true.mp this d hd)
theorem jl_len (s : List Nat) : ∀ ps : List (List Nat), ps ≠ [] → (TL.joinL s ps).length + s.length = (ps.map List.length).sum + ps.length * s.length
  | [], h => absurd rfl h
  | [p], _ => by simp [TL.joinL]
  | p :: q :: r, _ => by
    have ih := jl_len s (q :: r) (by simp)
    simp only [TL.joinL, List.length_append, List.map_cons, List.sum_cons, List.length_cons] at ih ⊢
    have : (r.length + 1 + 1) * s.length = (r.length + 1) * s.length + s.length := by rw [Nat.succ_mul]
    omega
theorem set_self {st : Sto} {n : Nat} {o : AO} (h : st[n]? = some o) : st.set n o = st := by
  apply List.ext_getElem?
  intro i
  by_cases hi : n = i
  · subst hi
    rw [List.getElem?_set_self (List.getElem?_eq_some_iff.mp h).1, h]
  · rw [List.getElem?_set_ne hi]
theorem el_line {ds : List PyData} (h1 : ds.length ≤ 4) (h2 : ∀ d ∈ ds, El d) : ∃ l, shownE ds = AL.S l ∧ sm 243 l := by
  have g : ∀ ds : List PyData, (∀ d ∈ ds, El d) → ∃ ls : List (List Nat), ds.map wordOf = ls.map AL.S ∧ ls.length = ds.length ∧ ∀ l ∈ ls, sm 60 l := by
    intro ds
    induction ds with
    | nil => exact fun _ => ⟨[], rfl, rfl, fun l hl => by cases hl⟩
    | cons d ds ih =>
      intro h
      obtain ⟨_, l, e, hl⟩ := h d (List.mem_cons_self ..)
      obtain ⟨ls, e2, e3, e4⟩ := ih fun x hx => h x (List.mem_cons_of_mem _ hx)
      exact ⟨l :: ls, by rw [List.map_cons, List.map_cons, e, e2], by rw [List.length_cons, List.length_cons, e3], fun x hx => by
        rcases List.mem_cons.mp hx with rfl | hx
        · exact hl
        · exact e4 x hx⟩
  obtain ⟨ls, e, el, hs⟩ := g ds h2
  refine ⟨TL.joinL [32] ls, ?_, ?_⟩
  · unfold shownE
    rw [e, TX.join_S]
  · have h3 := sum_le (ps := ls) (n := 60) fun p hp => (hs p hp).1
    have h4 := TX.joinL_len [32] ls
    refine ⟨?_, fun c hc => ?_⟩
    · cases ls with
      | nil => simp [TL.joinL]
      | cons l r =>
        have := jl_len [32] (l :: r) (by simp)
        rw [List.length_cons] at el h3 this
        simp only [List.length_cons, List.length_nil] at this
        omega
    · rcases joinL_mem hc with q | ⟨p, hp, q⟩
      · rw [List.mem_singleton.mp q]; decide
      · exact (hs p hp).2 c q
def spLaw (K : PySem.W.Frag) (n : Nat) : Sp := fun vs H Q _ => ∃ (a : Addr) (ns : List Int), vs = [.ref a] ∧ ns.length ≤ n ∧ Only H ∧ SqL K H a (ns.map V.int) ∧ ∀ H', Q (.bl true) H'
section
variable {P : Program} {w : World} {K : PySem.W.Frag} {mg : Str → Option Value} {base : Heap} {f d C L C2 C3 C4 : Addr} {fd : FuncData} {a : Ads}
theorem sc_law : FnScope ["_law_script", "_law_some", "_law_k", "_law_room_here", "_law_line", "_law_turn", "_law_cut"] ["_law_script"] (defScope (top 40)) := C8.fnScope_by (by decide +kernel)
theorem wx_room {b : Cf} {sl : Sl} {st : Sto} {a : Addr} {ns : List Int} {k : Int} {W : WX} {Φ : AV → Sto → Prop} (hs : Scr K b a ns) (h0 : sl[0]? = some (some (.raw (.ref a)))) (hk : sl[2]? = some (some (dI k))) (k0 : 0 ≤ k ∧ k < 1000) (q0 : ∀ x y, Φ (.o st.length) (st ++ [RmO x y])) :
    Wx K b (tCalW (spRoom K) [] W (tCons (tVar 0) (tCons (tVar 2) tNil))) sl st Φ := fun c σ e tb s S Q q => by
  obtain ⟨v, h1, h2⟩ := S.2 0 _ h0
  cases h2
  obtain ⟨u, h3, h4⟩ := S.2 2 _ hk
  cases rv_i h4
  subst e
  exact ⟨_, h1, _, h3, c, a, ns, k, rfl, rfl, s, hs.mono tb, k0, fun v c' x y t s' r e2 => q v c' (.o c.st.length) t s' r (by rw [e2]; exact q0 x y)⟩
theorem ok_law (hgR : Room 9 callerA) (B : BT mg) (F : Fn K "law" 40 f fd) (c__law_room : DefOk P w K mg base 1 "_law_room" [] (spRoom K)) (c__law_take : DefD P w K mg base 1 "_law_take" fTake) (c__law_line_of : DefD P w K mg base 2 "_law_line_of" fShown) (c__law_entry : DefD P w K mg base 3 "_law_entry" fEntry)
    (c__law_bent : DefD P w K mg base 2 "_law_bent" fBent) (c__law_told : DefD P w K mg base 8 "_law_told" fDue) (c__law_due : DefD P w K mg base 3 "_law_due" fDue) : AtC P w K mg base (L2.CX P w) f fd ["_law_script"] (spLaw K 63) := by
  refine FunD.at_ F sc_law (fun vs H Q E h => ?_) hgR (fun cdv s H vs Q E hr hgu h => ?_)
  · obtain ⟨_, _, rfl, _⟩ := h
    rfl
  · obtain ⟨a, ns, rfl, hl, hO, hS, k⟩ := h
    refine ⟨_, (pss_cons (ps_set (i := 1) sc_law.nd rfl (by first | exact Or.inl rfl | exact Or.inr rfl) (pe_lst (pa_cons pe_str (pa_cons pe_str (pa_cons pe_str (pa_cons pe_str (pa_cons pe_str (pa_cons pe_str (pa_cons pe_str (pa_cons pe_str (pa_cons pe_str pa_nil)))))))))))
      (pss_cons (ps_set (i := 1) sc_law.nd rfl (by first | exact Or.inl rfl | exact Or.inr rfl) (x_add (K := K) (pv 1) (pe_lst (pa_cons pe_str (pa_cons (x_add (K := K) (x_add (K := K) pe_str (x_mul pe_str pe_int)) pe_str) (pa_cons pe_str (pa_cons pe_str pa_nil)))))))
      (pss_cons (ps_set (i := 1) sc_law.nd rfl (by first | exact Or.inl rfl | exact Or.inr rfl) (x_add (K := K) (pv 1) (pe_lst (pa_cons pe_str (pa_cons pe_str (pa_cons pe_str (pa_cons pe_non (pa_cons pe_int (pa_cons (pe_lst pa_nil) (pa_cons (pe_tup (pa_cons pe_str pa_nil)) (pa_cons pe_bl pa_nil)))))))))))
      (pss_cons (ps_for (passes_of rfl) rfl (x_rng1 B (x_max2 B pe_int (x_min2 B (x_len (K := K) B (pv 0)) pe_int))) (pg_name (i := 2) sc_law.nd rfl (by first | exact Or.inl rfl | exact Or.inr rfl)) (pss_cons (ps_set (i := 3) sc_law.nd rfl (by first | exact Or.inl rfl | exact Or.inr rfl) (pe_f c__law_room hr takesD (pa_cons (pv 0) (pa_cons (pv 2) pa_nil))))
      (pss_cons (ps_set (i := 4) sc_law.nd rfl (by first | exact Or.inl rfl | exact Or.inr rfl) (x_join (K := K) pe_str (pa_cons (pe_lc (own := [("_law_turn", 5)]) (g := gName 5) (tt := tYes) rfl sc_law.nd (x_rng1 B (pe_f c__law_take hr takesD (pa_cons (pv 3) (pa_cons pe_int pa_nil)))) (blkOk_by (N := ["_law_script", "_law_some", "_law_k", "_law_room_here", "_law_line", "_law_turn", "_law_cut"]) (sc := defScope (top 40)) (by decide +kernel)) (fun _ _ _ _ _ => pg_name (i := 5) sc_law.nd rfl (by first | exact Or.inl rfl | exact Or.inr rfl)) (fun _ _ _ _ _ => pts_nil) (fun _ _ _ _ _ => (x_add (K := K) (pe_f c__law_line_of hr takes0 (pa_cons (pe_f c__law_entry hr takes0 (pa_cons (pv 3) pa_nil)) pa_nil)) pe_str))) pa_nil)))
      (pss_one (ps_set (i := 1) sc_law.nd rfl (by first | exact Or.inl rfl | exact Or.inr rfl) (x_add (K := K) (x_add (K := K) (pv 1) (pe_lst (pa_cons (pv 4) pa_nil))) (pe_lc (own := [("_law_turn", 5)]) (g := gName 5) (tt := tYes) rfl sc_law.nd (x_rng1 B pe_int) (blkOk_by (N := ["_law_script", "_law_some", "_law_k", "_law_room_here", "_law_line", "_law_turn", "_law_cut"]) (sc := defScope (top 40)) (by decide +kernel)) (fun _ _ _ _ _ => pg_name (i := 5) sc_law.nd rfl (by first | exact Or.inl rfl | exact Or.inr rfl)) (fun _ _ _ _ _ => pts_nil) (fun _ _ _ _ _ => (pe_f c__law_bent hr takes0 (pa_cons (pv 3) (pa_cons (pv 4) pa_nil)))))))))))
      (pss_cons (ps_for (passes_of rfl) rfl (pi_list (pv 1)) (pg_name (i := 4) sc_law.nd rfl (by first | exact Or.inl rfl | exact Or.inr rfl)) (pss_one (ps_for (passes_of rfl) rfl (pi_list (pe_lst (pa_cons pe_bl (pa_cons pe_bl pa_nil)))) (pg_name (i := 6) sc_law.nd rfl (by first | exact Or.inl rfl | exact Or.inr rfl)) (pss_one (ps_if (t_ne (K := K) hr.units (x_repr (K := K) B hgu hr.units (pe_f c__law_told hr takesD (pa_cons (pv 4) (pa_cons (pv 6) pa_nil)))) (x_repr (K := K) B hgu hr.units (pe_f c__law_due hr takesD (pa_cons (pv 4) (pa_cons (pv 6) pa_nil))))) (pss_one (ps_ret pe_bl)) pss_nil)))))
      (pss_one (ps_ret pe_bl))))))), ?_⟩
    let c : Cf := ⟨[], [], H, []⟩
    have s0 : SR K c := ⟨(fun a h => by cases h), (fun a h => by cases h), rfl, List.nodup_nil, (fun a h => by cases h), fun i a o h _ => by cases h⟩
    have hs : Scr K c a ns := scr_of (hO a) (by rintro (h | ⟨i, o, h, _⟩) <;> cases h) hS
    let e : DE := { nx := fun _ _ => False, rt := fun x _ => x = .d (.bool true) }
    refine run_ws (c := c) (e := e) (xs := [.raw (.ref a)]) ?_ s0 (.cons rfl .nil) _ ⟨fun c' σ sl t' s' S' k => k.elim, fun c' v x t' s' r ex => (by
      have ex : x = .d (.bool true) := ex
      subst ex
      cases r
      exact k _), fun c' σ sl _ _ _ k => k.elim, fun c' σ sl _ _ _ k => k.elim⟩
    have hF : ErrOk K c (fun cls d _ H => E cls d H) (fun _ _ _ => False) := fun _ _ _ _ _ _ _ _ _ _ k => k.elim
    refine ws_asgS (ev_lst (ds := D0) (ea_cons ev_s (ea_cons ev_s (ea_cons ev_s (ea_cons ev_s (ea_cons ev_s (ea_cons ev_s (ea_cons ev_s (ea_cons ev_s (ea_cons ev_s ea_nil))))))))) (by decide)) ?_
    have e30 : Txt.mul (AL.S [49]) ((30 : Nat) : Int) = AL.S (List.replicate 30 49) := by decide +kernel
    refine ws_asgS (x := dL (D0 ++ D1)) (ev_op (ev_var rfl) (ev_lst (ds := D1) (ea_cons ev_s (ea_cons (ev_catS (l := [110, 117, 109, 98, 101, 114, 32] ++ List.replicate 30 49) (m := [10]) (ev_catS (l := [110, 117, 109, 98, 101, 114, 32]) (m := List.replicate 30 49) (ev_s (z := AL.S [110, 117, 109, 98, 101, 114, 32])) (ev_is (ev_op (ev_s (z := AL.S [49])) (ev_i (i := 30)) (o_mulS (z := AL.S [49]) (n := 30) (by decide) (by decide))) (by rw [e30])) (by decide) (by decide)) (ev_s (z := AL.S [10])) (by decide) (by decide)) (ea_cons ev_s (ea_cons ev_s ea_nil)))) (by decide)) (o_addL (by decide))) ?_
    refine ws_asgS (x := dL (D0 ++ D1 ++ D2)) (ev_op (ev_var rfl) (ev_lst (ds := D2) (ea_cons ev_s (ea_cons ev_s (ea_cons ev_s (ea_cons ev_n (ea_cons ev_i (ea_cons (ev_lst (ds := []) ea_nil (by decide)) (ea_cons (ev_tup (ds := [_]) (ea_cons ev_s ea_nil) (by decide)) (ea_cons ev_b ea_nil)))))))) (by decide)) (o_addL (by decide))) ?_
    refine ws_sq (ws_for (wi_rng1 (wa_cons (wx_cb (wa_cons (wx_of ev_i (wa_cons (wx_cb (wa_cons (wx_lenR hs rfl (wa_of (ea_cons ev_i ea_nil) ⟨_, o_min2, ?_⟩)))))))))))
    refine wa_nil ⟨_, o_max2, wa_nil ⟨_, rfl, ?_, fun i sl st => ∃ ds x2 x3 x4 x5, sl = [some (.raw (.ref a)), some (dL ds), x2, x3, x4, x5, none] ∧ ds.length ≤ 100 + 9 * i ∧ ∀ d ∈ ds, It d, ⟨D0 ++ D1 ++ D2, none, none, none, none, rfl, by decide, it_D⟩, ?_, ?_⟩⟩
    · constructor <;> (split <;> split <;> omega)
    · rintro i x sl1 st1 hx ⟨ds, x2, x3, x4, x5, rfl, hdl, hit⟩
      have hi : i < 20 ∧ x = dI (i : Nat) := by
        rw [List.getElem?_map] at hx
        cases hr : (List.range (if (if (20:Int) < (ns.length : Int) then (20:Int) else (ns.length : Int)) > 1 then (if (20:Int) < (ns.length : Int) then (20:Int) else (ns.length : Int)) else 1).toNat)[i]? with
        | none => rw [hr] at hx; cases hx
        | some j =>
          rw [hr] at hx
          obtain ⟨h1, h2⟩ := List.getElem?_eq_some_iff.mp hr
          rw [List.getElem_range] at h2
          rw [List.length_range] at h1
          refine ⟨?_, ?_⟩
          · revert h1
            split <;> split <;> omega
          · subst h2
            cases hx
            rfl
      obtain ⟨hi, rfl⟩ := hi
      refine ⟨_, _, eg_name, ?_⟩
      refine ws_sq (ws_asg (wx_room (k := (i : Nat)) hs rfl rfl ⟨by omega, by omega⟩ fun x y => ?_))
      have hn : (st1 ++ [RmO x y])[st1.length]? = some (RmO x y) := by simp
      generalize st1 ++ [RmO x y] = st2 at hn
      generalize st1.length = n at hn
      refine ws_sq (ws_asg (wx_bm (x := dS (AL.S [])) ev_s (wa_cons (wx_lc (wi_rng1 (wa_cons (wx_cal hF rnil (wa_of (ea_cons (ev_var rfl) (ea_cons ev_i ea_nil)) ⟨n, x, y, 7, rfl, hn, by decide, fun r x1 y1 h0 h1 => ?_⟩)))))) ?h0))
      case h0 => exact ⟨[dL (([] : List Str).map PyData.str)], _, o_joinL (a := AL.S []) (ys := []) (by decide)⟩
      refine wa_nil ⟨r, rfl, by omega, by rw [List.length_map, List.length_range]; omega, fun i acc st' => ∃ ls a' b', acc = rowsD ls ∧ ls.length = i ∧ (∀ l ∈ ls, sm 244 l) ∧ st' = st2.set n (RmO a' b'), ⟨[], x1, y1, rfl, rfl, (fun _ h => nomatch h), rfl⟩, ?_, ?_⟩
      · rintro i z acc st3 hz ⟨ls, a1, b1, rfl, hl, hsm, rfl⟩ hacc
        refine ⟨_, [5], by decide, eg_name, fun b' => ?_⟩
        have hn1 := set_get (o' := RmO a1 b1) hn
        refine wx_op (wx_cal hW0 rnil (wa_cons (wx_cal hW0 rnil (wa_of (ea_cons (ev_var rfl) ea_nil) ⟨n, a1, b1, rfl, hn1, fun ds a2 b2 hd1 hd2 => ?_⟩))))
        obtain ⟨l, el, hl2⟩ := el_line hd1 hd2
        refine wa_nil ⟨ds, rfl, fun d hd => (hd2 d hd).1, by omega, ?_⟩
        rw [el]
        refine wx_of (ev_s (z := AL.S [10])) ⟨_, o_addS (by rw [TX.S_len, TX.S_len]; have := hl2.1; simp; omega), _, rfl, ls ++ [l ++ [10]], a2, b2, ?_, by rw [List.length_append]; simp [hl], fun q hq => ?_, by rw [List.set_set]⟩
        · rw [SX.S_cat, ← rowsD_app]
          rfl
        · rcases List.mem_append.mp hq with h | h
          · exact hsm q h
          · rw [List.mem_singleton.mp h]
            exact sm_app hl2 (⟨by decide, by decide⟩ : sm 1 [10])
      · rintro acc st3 ⟨ls, a1, b1, rfl, hl, hsm, rfl⟩
        rw [List.length_map, List.length_range] at hl
        have h3 := sum_le (ps := ls) (n := 244) fun p hp => (hsm p hp).1
        have hsl : sm 1500 (TL.joinL [] ls) := sm_join (k := 0) (n := 0) ⟨by decide, by decide⟩ (fun p hp => (hsm p hp).2) (by omega)
        refine wa_nil ⟨dS (AL.S (TL.joinL [] ls)), ?_, ?_⟩
        · have := o_joinL (K := K) (st := st2.set n (RmO a1 b1)) (a := AL.S []) (ys := ls.map AL.S) (by rw [TX.S_len, List.length_map, TX.lens]; simp only [List.length_nil]; omega)
          rw [TX.join_S, ← rowsD_S] at this
          exact this
        generalize TL.joinL [] ls = line at hsl
        have hn1 := set_get (o' := RmO a1 b1) hn
        generalize st2.set n (RmO a1 b1) = st4 at hn1
        refine ws_asg (wx_op (wx_op (wx_of (ev_var rfl) (wx_of (ev_lst (ds := [.str (AL.S line)]) (ea_cons (ev_var rfl) ea_nil) (Nat.le_of_ble_eq_true rfl)) ⟨_, o_addL (by simp; omega), ?_⟩))))
        refine wx_lc (wi_of (ei_rng1 (ea_cons ev_i ea_nil) ⟨by decide, by decide⟩) ⟨by decide, fun i acc st' => ∃ a' b', acc.length = i ∧ (∀ d ∈ acc, It d) ∧ st' = st4.set n (RmO a' b'), ⟨a1, b1, rfl, (fun _ h => nomatch h), ?_⟩, ?_, ?_⟩)
        · exact (set_self hn1).symm
        · rintro i z acc st5 hz ⟨a2, b2, hl, hit2, rfl⟩ hacc
          refine ⟨_, [5], by decide, eg_name, fun b' => wx_cal hW0 rnil (wa_of (ea_cons (ev_var rfl) (ea_cons (ev_var rfl) ea_nil)) ⟨n, a2, b2, line, rfl, set_get hn1, hsl, fun l' a3 b3 hl' => ⟨_, rfl, a3, b3, by rw [List.length_append]; simp [hl], fun d hd => ?_, by rw [List.set_set]⟩⟩)⟩
          rcases List.mem_append.mp hd with h | h
          · exact hit2 d h
          · rw [List.mem_singleton.mp h]
            exact Or.inl ⟨l', rfl, hl'⟩
        · rintro acc st5 ⟨a2, b2, hl2, hit2, rfl⟩
          have hl8 : acc.length = 8 := hl2
          refine ⟨_, o_addL (by rw [List.length_append, hl8]; simp; omega), ds ++ [.str (AL.S line)] ++ acc, _, _, _, _, rfl, ?_, fun d hd => ?_⟩
          · rw [List.length_append, List.length_append, hl8, List.length_singleton]
            omega
          · rcases List.mem_append.mp hd with h | h
            · rcases List.mem_append.mp h with h | h
              · exact hit d h
              · rw [List.mem_singleton.mp h]
                exact Or.inl ⟨line, rfl, sm_mono hsl (by decide)⟩
            · exact hit2 d h
    · rintro sl1 st1 ⟨ds, x2, x3, x4, x5, rfl, hdl, hit⟩
      refine ws_sq (ws_for (wi_of (ei_list (ev_var rfl)) ⟨fun i sl st => ∃ x4 x6, sl = [some (.raw (.ref a)), some (dL ds), x2, x3, x4, x5, x6], ⟨x4, none, rfl⟩, ?_, ?_⟩))
      · rintro i x sl2 st2 hx ⟨x4', x6, rfl⟩
        rw [List.getElem?_map] at hx
        cases hi : ds[i]? with
        | none => rw [hi] at hx; cases hx
        | some d =>
          rw [hi] at hx
          cases hx
          have hd := hit d (List.mem_of_getElem? hi)
          refine ⟨_, _, eg_name, ?_⟩
          refine ws_for (wi_of (ei_list (ev_lst (ds := [.bool true, .bool false]) (ea_cons ev_b (ea_cons ev_b ea_nil)) (by decide))) ⟨fun i sl st => ∃ x6, sl = [some (.raw (.ref a)), some (dL ds), x2, x3, some (.d d), x5, x6], ⟨_, rfl⟩, ?_, ?_⟩)
          · rintro j x sl3 st3 hx ⟨x6', rfl⟩
            have hc : ∃ cb : Bool, x = dB cb := by
              have := List.mem_of_getElem? hx
              simp only [List.map_cons, List.map_nil, List.mem_cons, List.not_mem_nil, or_false] at this
              rcases this with rfl | rfl
              · exact ⟨true, rfl⟩
              · exact ⟨false, rfl⟩
            obtain ⟨cb, rfl⟩ := hc
            obtain ⟨w1, w2, w3⟩ := it_showy cb hd
            refine ⟨_, _, eg_name, ?_⟩
            refine ws_ifE (p := false) (et_is (et_test (ev_op (ev_cb (ea_cons (ev_cal rnil (ea_cons (ev_var rfl) (ea_cons (ev_var rfl) ea_nil)) ⟨d, cb, rfl, it_ok hd, rfl, rfl⟩) ea_nil) (o_repr w1 w2 w3)) (ev_cb (ea_cons (ev_cal rnil (ea_cons (ev_var rfl) (ea_cons (ev_var rfl) ea_nil)) ⟨d, cb, rfl, it_ok hd, rfl, rfl⟩) ea_nil) (o_repr w1 w2 w3)) o_neS)) (by simp)) (fun h => by cases h) fun _ => ws_next ⟨_, rfl⟩
          · rintro sl3 st3 ⟨x6', rfl⟩
            exact ⟨_, _, rfl⟩
      · rintro sl2 st2 ⟨x4', x6, rfl⟩
        exact ws_retE ev_b rfl
end
end K68

set_option Elab.async false
set_option linter.all false
set_option maxRecDepth 100000
set_option maxHeartbeats 4000000
/-! AL21: what a head tells of own exceptions and written tables, as one Bool; a hook that looks at the statics too (after the library's hookT, HeadNt's hookA). -/
namespace AL
open PySem PySem.Spec PyProof.Rows L2
open PySem.W (Frag findIn subIn typeIn keepIn nsIn specialIn readsIn findCls takesIn mroIn hasDictIn kitOne kitAny exmOne)
theorem ba {a b : Bool} (h : (a && b) = true) : a = true ∧ b = true := Bool.and_eq_true_iff.mp h
/-! ### an own exception class over ValueError -/
def oexO (K : Frag) (C : Addr) : Bool := match K.lookup C with
  | some ⟨.type "type", _, .cls cd, sl⟩ => (match cd.mro, sl.toList with
    | .ref C' :: bm, [_, _, _, _, some (.builtin n), _] => C' == C && n == "ValueError.__new__" && !cd.hasDel && cd.hasDict && PySem.HandSPX.refsVE bm
    | _, _ => false)
  | _ => false
def oexB (K : Frag) (C : Addr) : Bool := oexO K C && (decide (findIn K (.ref C) "__setattr__" = some (some (.builtin "object.__setattr__"))) && (decide (subIn K (.ref C) (.type "BaseException") = some true) && (decide (typeIn K (.ref C) = some (.type "type")) && keepIn K (.ref C))))
theorem oexB_ok {K : Frag} {C : Addr} (h : oexB K C = true) : OexC K C := by
  obtain ⟨q, h⟩ := ba h
  obtain ⟨h1, h⟩ := ba h
  obtain ⟨h2, h⟩ := ba h
  obtain ⟨h3, h4⟩ := ba h
  refine ⟨?_, of_decide_eq_true h1, of_decide_eq_true h2, of_decide_eq_true h3, h4⟩
  unfold oexO at q
  split at q
  · rename_i dd cd sl ho
    split at q
    · rename_i C' bm k0 k1 k2 k3 n k5 hm hs
      simp only [Bool.and_eq_true, beq_iff_eq, Bool.not_eq_true'] at q
      obtain ⟨⟨⟨⟨rfl, rfl⟩, hdel⟩, hd⟩, ht⟩ := q
      obtain ⟨nm, bs, mro, ns, qn, hdct, sn, sub, ab, col, del⟩ := cd
      dsimp only at hm hdel hd
      subst hm hdel hd
      have hsl : sl = #[k0, k1, k2, k3, some (.builtin "ValueError.__new__"), k5] := by
        obtain ⟨l⟩ := sl
        simp only at hs
        rw [hs]
      subst hsl
      exact ⟨nm, qn, ns, bs, bm, sn, sub, ab, col, dd, k0, k1, k2, k3, k5, ho, ht⟩
    · cases q
  · cases q
def excCB (K : Frag) (D : Addr) : Bool := decide (findIn K (.ref D) "__getattribute__" = some (some (.builtin "BaseException.__getattribute__"))) && (decide (findIn K (.ref D) "__getattr__" = some none) && (decide (subIn K (.ref D) (.type "BaseException") = some true) && (hasDictIn K D && (decide (findIn K (.ref D) "__class__" = some (some (.builtin "object.__class__"))) &&
  (decide (specialIn K (.builtin "object.__class__") "__get__" = some (some (.builtin "getset_descriptor.__get__"))) && (decide (takesIn K (.builtin "object.__class__") = some true) && decide (mroIn K D (.type "object") = some true)))))))
theorem excCB_ok {K : Frag} {D : Addr} (h : excCB K D = true) : ExcC K D := by
  obtain ⟨h1, h⟩ := ba h
  obtain ⟨h2, h⟩ := ba h
  obtain ⟨h3, h⟩ := ba h
  obtain ⟨h4, h⟩ := ba h
  obtain ⟨h5, h⟩ := ba h
  obtain ⟨h6, h⟩ := ba h
  obtain ⟨h7, h8⟩ := ba h
  exact ⟨of_decide_eq_true h1, of_decide_eq_true h2, of_decide_eq_true h3, h4, of_decide_eq_true h5, of_decide_eq_true h6, of_decide_eq_true h7, of_decide_eq_true h8⟩
def dinitB (K : Frag) (D : Addr) : Bool := readsIn K D (.type "type") && (decide (specialIn K (.ref D) "__getattribute__" = some (some (.builtin "type.__getattribute__"))) && (match findCls K (.ref D) (.type "type") "__init__" with
  | some (.val (.builtin n)) => decide (n = "ValueError.__init__")
  | _ => false))
theorem dinitB_ok {K : Frag} {mg : Str → Option Value} {x : Str} {D : Addr} (hm : mg x = some (.ref D)) (h : dinitB K D = true) : DInit K mg x := by
  obtain ⟨h1, h⟩ := ba h
  obtain ⟨h2, h3⟩ := ba h
  refine ⟨D, .type "type", hm, h1, of_decide_eq_true h2, ?_⟩
  cases e : findCls K (.ref D) (.type "type") "__init__" with
  | none => rw [e] at h3; cases h3
  | some c =>
    rw [e] at h3
    cases c with
    | val v =>
      cases v with
      | builtin n =>
        have : n = "ValueError.__init__" := of_decide_eq_true h3
        rw [this]
      | _ => cases h3
    | get _ _ _ _ => cases h3
/-! ### class C(D): def __init__(self, f): D.__init__(self, f); self.f = f -/
theorem run_init {K : Frag} {C : Addr} {f a b : Str} {vs : List V} {H : Hp} {Q : VK} {E : XK} (T : OexC K C) (hno : findIn K (.ref C) f = some none) (h : spInit C f vs H Q E) :
    (tSeq (tDrop (tVeI K (tCons (tVar 0) (tCons (tVar 1) tNil)))) (tOst K f (tVar 0) (tVar 1))) { nx := fun _ H' => Q .non H', rt := Q } (L2.start [a, b] vs) H := by
  obtain ⟨p, v, rfl, ha, hq⟩ := h
  exact ⟨_, rfl, _, rfl, p, C, [v], rfl, (by decide : 1 ≤ 1000), T, ha, _, rfl, _, rfl, p, C, rfl, T, hno, Or.inl ⟨ha, fun dx h1 h2 => hq dx h1 h2⟩⟩
/-! ### a written table of text keys -/
def tupAt (K : Frag) (a : Addr) (vs : List V) : Bool := match K.lookup a with
  | some ⟨.type c, _, .seq its _, _⟩ => decide (c = "tuple") && (decide (its.size ≤ sizeLine) && He.relAll vs its.toList)
  | _ => false
theorem tupAt_ok {K : Frag} {a : Addr} {vs : List V} (h : tupAt K a vs = true) (H : Hp) : SqT K H a vs := by
  unfold tupAt at h
  cases q : K.lookup a with
  | none => rw [q] at h; cases h
  | some o =>
    obtain ⟨oc, od, dt, osl⟩ := o
    rw [q] at h
    cases oc with
    | type c =>
      cases dt with
      | seq its n =>
        obtain ⟨h1, h2⟩ := ba (show (decide (c = "tuple") && (decide (its.size ≤ sizeLine) && He.relAll vs its.toList)) = true from h)
        obtain ⟨h3, h4⟩ := ba h2
        exact .inr ⟨_, its, n, q, congrArg Value.type (of_decide_eq_true h1), rfl, of_decide_eq_true h3, He.relAll_ok h4⟩
      | _ => cases h
    | _ => cases dt <;> cases h
def keysB (K : Frag) (d : Addr) (ks : List Str) : Bool := match K.lookup d with
  | some ⟨_, _, .dict es _, _⟩ => es.toList.all fun e => match e.key with
    | .str x _ => ks.any fun k => decide (k = x)
    | _ => false
  | _ => false
theorem keysB_miss {K : Frag} {d : Addr} {ks : List Str} (h : keysB K d ks = true) {z : Str} (hz : z ∉ ks) : nsIn K d z = some none := by
  unfold keysB at h
  unfold PySem.W.nsIn
  cases q : K.lookup d with
  | none => rw [q] at h; cases h
  | some o =>
    obtain ⟨oc, od, dt, osl⟩ := o
    rw [q] at h
    cases dt with
    | dict es n =>
      simp only at h ⊢
      have h1 : ∀ e ∈ es.toList, ∃ x t, e.key = .str x t ∧ x ∈ ks := fun e he => by
        have := List.all_eq_true.mp h e he
        cases hk : e.key with
        | str x t =>
          rw [hk] at this
          obtain ⟨k, hk1, hk2⟩ := List.any_eq_true.mp this
          exact ⟨x, t, rfl, by rw [← of_decide_eq_true hk2]; exact hk1⟩
        | _ => rw [hk] at this; cases this
      have h2 : es.toList.find? (·.key.isStr z) = none := by
        rw [List.find?_eq_none]
        intro e he
        obtain ⟨x, t, ek, hx⟩ := h1 e he
        rw [ek]
        show ¬ (x == z) = true
        intro q
        have : x = z := by simpa using q
        exact hz (this ▸ hx)
      rw [h2]
      simp only
      have h3 : es.toList.any (·.refKey) = false := by
        rw [List.any_eq_false]
        intro e he
        obtain ⟨x, t, ek, _⟩ := h1 e he
        have : e.refKey = false := by
          unfold DictEntry.refKey
          rw [ek]
          try rfl
        rw [this]
        decide
      rw [h3, if_neg (by decide)]
    | _ => cases h
/-- the object that stands at the key z -/
def atKey (K : Frag) (d : Addr) (z : Str) : Addr := match nsIn K d z with
  | some (some (.ref a)) => a
  | _ => 0
/-! ### the hook -/
open He (Fa Tab AlT obsT valT SaysT frG frG_in)
def asZ (g : Addr → Option Obj) (n : Nat) : List Addr := He.asD g n ++ [cStatics]
abbrev AlZ : Type := AlT × Bool
def obsZ (n : Nat) (fa : List Fa) (fn : List He.DefD) (ts : List Tab) (ex : Frag → Bool) (g : Addr → Option Obj) : AlZ := (obsT fa fn ts (frG g (asZ g n)), ex (frG g (asZ g n)))
def SaysZ (fa : List Fa) (fn : List He.DefD) (ts : List Tab) (ex : Frag → Bool) (w : World) (K : Frag) : Prop := SaysT fa fn ts w K ∧ ex K = true
def hookZ (n : Nat) (fa : List Fa) (fn : List He.DefD) (ts : List Tab) (ex : Frag → Bool) : PySem.W.Hook where
  α := AlZ
  obs := fun s => obsZ n fa fn ts ex s.heap.get?
  val := fun w => (valT fn ts w, true)
  says := fun w h => ∃ K : Frag, K.In h ∧ SaysZ fa fn ts ex w K
  of := fun _ _ e => ⟨_, frG_in, congrArg (fun z : AlZ => z.1) e, congrArg (fun z : AlZ => z.2) e⟩
  keeps := fun _ _ _ ⟨K, hK, c⟩ k => ⟨K, PySem.W.Frag.In.keeps hK k, c⟩
theorem obsZ_eq {n : Nat} {fa : List Fa} {fn : List He.DefD} {ts : List Tab} {ex : Frag → Bool} {g : Addr → Option Obj} {s : Shared} (h : ∀ a, g a = s.heap.get? a) : obsZ n fa fn ts ex g = (hookZ n fa fn ts ex).obs s := by
  have e : g = s.heap.get? := funext h
  rw [e] <;> rfl
section
variable {fa : List Fa} {fn : List He.DefD} {K : Frag}
theorem fact_in (c : He.SaysD fa fn K) {f : Fa} (h : f ∈ fa) : f.ok K = true := by
  obtain ⟨i, hi, e⟩ := List.mem_iff_getElem.mp h
  exact c.fact i (f := f) (by rw [List.getElem?_eq_getElem hi, e])
theorem def_in (c : He.SaysD fa fn K) {d : He.DefD} (h : d ∈ fn) : ∃ fd, FunD K d.name d.qual d.params d.body d.scope (d.dvs K) (d.kws K) (He.fAd K d.at_) fd := by
  obtain ⟨i, hi, e⟩ := List.mem_iff_getElem.mp h
  exact c.def_ i (d := d) (by rw [List.getElem?_eq_getElem hi, e])
end
end AL

set_option Elab.async false
set_option linter.all false
set_option maxRecDepth 100000
set_option maxHeartbeats 4000000
namespace K68
open PySem PySem.Spec PyProof.Rows L2 AL
open TX (Fl okZ cut)
/-! ### what the head tells -/
def dd (x : Str) (i : Nat) : He.DefD := ⟨(x, none), x, x, defArgs (top i), defBody (top i), defScope (top i), [], []⟩
def initS : Stmt := inClass (top 3) 0
def dInit : He.DefD := ⟨("NoText", some "__init__"), "__init__", "NoText.__init__", defArgs initS, defBody initS, defScope initS, [], []⟩
def fn : List He.DefD := [dd "is_whole" 10, dd "is_word" 11, dd "is_path" 12, dd "is_time" 14, dd "is_entry" 16, dd "word_of" 21, dd "shown_entry" 22, dd "thing_in" 23, dd "entry_in" 24, dd "entries_in" 25, dd "read_cut" 26, dd "read" 27, dd "_law_room" 29, dd "_law_take" 30, dd "_law_word_of" 31, dd "_law_line_of" 32, dd "_law_path" 33, dd "_law_entry" 34, dd "_law_thing" 35, dd "_law_entry_of" 36, dd "_law_due" 37, dd "_law_told" 38, dd "_law_bent" 39, dd "law" 40, dInit]
def fa : List He.Fa := [.glo "LeaseError", .glo "NoEntry", .glo "NoText", .glo "NoSigns", .glo "NoRow", .glo "FORMS", .glo "is_whole", .glo "is_word", .glo "is_path", .glo "is_time", .glo "is_entry", .glo "word_of", .glo "shown_entry", .glo "thing_in", .glo "entry_in", .glo "entries_in", .glo "read_cut", .glo "read", .glo "_law_room", .glo "_law_take", .glo "_law_word_of", .glo "_law_line_of", .glo "_law_path", .glo "_law_entry", .glo "_law_thing", .glo "_law_entry_of", .glo "_law_due", .glo "_law_told", .glo "_law_bent", .glo "law", .free "isinstance", .free "all", .free "any", .free "len", .free "str", .free "int", .free "bool", .free "tuple", .free "list", .free "dict", .free "set", .free "range", .free "zip", .free "enumerate", .free "sum", .free "max", .free "min", .free "sorted", .free "repr", .free "ord", .int "LONGEST" 8, .int "DEEPEST" 5, .int "MOST_FIGURES" 30, .str "LETTERS" LETTERS, .str "NONE" (AL.S [45]), .str "FIGURES" FIGS]
def aF (K : PySem.W.Frag) : Ads := ⟨He.ga K "is_path", He.ga K "is_whole", He.ga K "is_time"⟩
def dF (K : PySem.W.Frag) : Addr := He.ga K "FORMS"
def ts : List He.Tab := [(dF, forms.map (·.1))]
def formsB (K : PySem.W.Frag) : Bool := keysB K (dF K) (forms.map (·.1)) && (!(decide ((aF K).p = (aF K).w)) && (!(decide ((aF K).p = (aF K).t)) && (!(decide ((aF K).w = (aF K).t)) &&
  forms.all fun q => decide (PySem.W.nsIn K (dF K) q.1 = some (some (.ref (atKey K (dF K) q.1)))) && tupAt K (atKey K (dF K) q.1) (q.2.map fun k => V.ref ((aF K).of k)))))
theorem formsB_ok {K : PySem.W.Frag} {w : World} (kd : ∃ es n, KDict K w (dF K) es n) (h : formsB K = true) : FormsOk K w (dF K) (aF K) := by
  obtain ⟨h1, h⟩ := ba h
  obtain ⟨h2, h⟩ := ba h
  obtain ⟨h3, h⟩ := ba h
  obtain ⟨h4, h5⟩ := ba h
  refine ⟨kd, fun z ks hf => ?_, fun z hf => keysB_miss h1 fun hz => ?_, by simpa using h2, by simpa using h3, by simpa using h4⟩
  · unfold formOf at hf
    cases hq : forms.find? (fun q => decide (q.1 = z)) with
    | none => rw [hq] at hf; cases hf
    | some q =>
      rw [hq] at hf
      cases hf
      have hz : q.1 = z := by
        have := List.find?_some hq
        exact of_decide_eq_true this
      obtain ⟨g1, g2⟩ := ba (List.all_eq_true.mp h5 q (List.mem_of_find?_eq_some hq))
      have g1 := of_decide_eq_true g1
      obtain ⟨es, n, D⟩ := kd
      subst hz
      exact ⟨_, ⟨es, n, _, D.at_, D.lit, g1, rfl⟩, ⟨_, g1⟩, tupAt_ok g2⟩
  · unfold formOf at hf
    obtain ⟨q, hq, e⟩ := List.mem_map.mp hz
    cases hq2 : forms.find? (fun q => decide (q.1 = z)) with
    | some q => rw [hq2] at hf; cases hf
    | none =>
      have := List.find?_eq_none.mp hq2 q hq
      exact this (decide_eq_true e)
abbrev cT (K : PySem.W.Frag) : Addr := He.ga K "NoText"
def keptB (K : PySem.W.Frag) (L C C2 C3 C4 : Addr) : Bool := decide (PySem.W.exmOne K (.ref C) (.ref L) = some true) && (excCB K C && (decide (PySem.W.kitOne K (.ref C) (.ref C) = some true) && (decide (PySem.W.kitAny K (.ref C) ([C2, C3, C4].map Value.ref) = some false) && (xfB K C && decide (PySem.W.findIn K (.ref C) "row" = some none)))))
theorem keptB_ok {K : PySem.W.Frag} {L C C2 C3 C4 : Addr} (h : keptB K L C C2 C3 C4 = true) : KeptF K L C C2 C3 C4 := by
  obtain ⟨h1, h⟩ := ba h
  obtain ⟨h2, h⟩ := ba h
  obtain ⟨h3, h⟩ := ba h
  obtain ⟨h4, h⟩ := ba h
  obtain ⟨h5, h6⟩ := ba h
  exact ⟨of_decide_eq_true h1, excCB_ok h2, of_decide_eq_true h3, of_decide_eq_true h4, xfB_ok h5, of_decide_eq_true h6⟩
def iT (K : PySem.W.Frag) : Addr := He.ma K (cT K) "__init__"
def exB (K : PySem.W.Frag) : Bool := oexB K (cT K) && (keptB K (He.ga K "LeaseError") (cT K) (He.ga K "NoEntry") (He.ga K "NoRow") (He.ga K "NoSigns") && (dinitB K (He.ga K "LeaseError") && (decide (PySem.W.findIn K (.ref (cT K)) "__init__" = some (some (.ref (iT K)))) && (decide (PySem.W.typeIn K (.ref (iT K)) = some (.type "function")) && formsB K))))
theorem sc_init : FnScope ["self", "row"] ["self", "row"] (defScope initS) := C8.fnScope_by (by decide +kernel)
section
variable {P : Program} {w : World} {K : PySem.W.Frag} {mg : Str → Option Value} {base : Heap} {f d C L C2 C3 C4 : Addr} {fd : FuncData} {a : Ads}
theorem ok_init (F : FunD K "__init__" "NoText.__init__" (defArgs initS) (defBody initS) (defScope initS) [] [] f fd) (T : OexC K C) (hno : PySem.W.findIn K (.ref C) "row" = some none) (hD : DInit K mg "LeaseError") : FnOk P w K mg base (L2.CX P w) 1 f fd ["self", "row"] (spInit C "row") := by
  refine F.ok sc_init (fun vs H Q E h => ?_) (fun cdv A outer s H vs Q E hr h => ⟨_, pss_cons (ps_expr (pe_dinit hD (pa_cons (pv 0) (pa_cons (pv 1) pa_nil)))) (pss_one (ps_ost (f := "row") (pv 0) (pv 1))), run_init T hno h⟩)
  obtain ⟨_, _, rfl, _⟩ := h
  rfl
theorem defOk {x qual : Str} {k : Nat} {ps : List Str} {sp : Sp} {params : Arguments} {body : List Stmt} {scope : Scope} (F : FunD K x qual params body scope [] [] f fd) (G : FnOk P w K mg base (L2.CX P w) k f fd ps sp) {y : Str} (hm : mg y = some (.ref f)) (hb : Binds K fd ps []) : DefOk P w K mg base k y [] sp := ⟨f, fd, ps, [], G, hm, F.kp, hb, .nil⟩
theorem heldOk {x qual : Str} {j k : Nat} {ps : List Str} {sp : Sp} {params : Arguments} {body : List Stmt} {scope : Scope} (F : FunD K x qual params body scope [] [] f fd) (G : FnOk P w K mg base (L2.CX P w) j f fd ps sp) (h : j ≤ k) (hb : Binds K fd ps []) : HeldD P w K mg base k f sp := ⟨fd, ps, G.mono h, F.kp, hb⟩
end

theorem facts {P : Program} {w : World} {K : PySem.W.Frag} {h : Heap} {mg : Str → Option Value} {fL : Addr} (X : K.In h) (G : h.Ns mainGlobals mg) (hfa : mg ("law" : Str) = some (.ref fL)) (c : SaysZ fa fn ts exB w K) :
    ∃ fd : FuncData, (∀ (s : Shared) (v : Value), BindsTo s fd ⟨[v], []⟩ [("_law_script", v)]) ∧ ∀ base : Heap, K.In base → base.Ns mainGlobals mg → AtC P w K mg base (L2.CX P w) fL fd ["_law_script"] (spLaw K 63) := by
  obtain ⟨c0, cx⟩ := c
  have cd : He.SaysD fa fn K := c0.d
  have ckd : ∃ es n, KDict K w (dF K) es n := c0.tab 0 rfl
  obtain ⟨x1, cx⟩ := ba cx
  obtain ⟨x2, cx⟩ := ba cx
  obtain ⟨x3, cx⟩ := ba cx
  obtain ⟨x4, cx⟩ := ba cx
  obtain ⟨x5, x6⟩ := ba cx
  have TC := oexB_ok x1
  have KF := keptB_ok x2
  have FO := formsB_ok ckd x6
  have m_LeaseError := He.glo_ok X G (cd.fact 0 (f := .glo "LeaseError") rfl)
  have m_NoEntry := He.glo_ok X G (cd.fact 1 (f := .glo "NoEntry") rfl)
  have m_NoText := He.glo_ok X G (cd.fact 2 (f := .glo "NoText") rfl)
  have m_NoSigns := He.glo_ok X G (cd.fact 3 (f := .glo "NoSigns") rfl)
  have m_NoRow := He.glo_ok X G (cd.fact 4 (f := .glo "NoRow") rfl)
  have m_FORMS := He.glo_ok X G (cd.fact 5 (f := .glo "FORMS") rfl)
  have m_is_whole := He.glo_ok X G (cd.fact 6 (f := .glo "is_whole") rfl)
  have m_is_word := He.glo_ok X G (cd.fact 7 (f := .glo "is_word") rfl)
  have m_is_path := He.glo_ok X G (cd.fact 8 (f := .glo "is_path") rfl)
  have m_is_time := He.glo_ok X G (cd.fact 9 (f := .glo "is_time") rfl)
  have m_is_entry := He.glo_ok X G (cd.fact 10 (f := .glo "is_entry") rfl)
  have m_word_of := He.glo_ok X G (cd.fact 11 (f := .glo "word_of") rfl)
  have m_shown_entry := He.glo_ok X G (cd.fact 12 (f := .glo "shown_entry") rfl)
  have m_thing_in := He.glo_ok X G (cd.fact 13 (f := .glo "thing_in") rfl)
  have m_entry_in := He.glo_ok X G (cd.fact 14 (f := .glo "entry_in") rfl)
  have m_entries_in := He.glo_ok X G (cd.fact 15 (f := .glo "entries_in") rfl)
  have m_read_cut := He.glo_ok X G (cd.fact 16 (f := .glo "read_cut") rfl)
  have m_read := He.glo_ok X G (cd.fact 17 (f := .glo "read") rfl)
  have m__law_room := He.glo_ok X G (cd.fact 18 (f := .glo "_law_room") rfl)
  have m__law_take := He.glo_ok X G (cd.fact 19 (f := .glo "_law_take") rfl)
  have m__law_word_of := He.glo_ok X G (cd.fact 20 (f := .glo "_law_word_of") rfl)
  have m__law_line_of := He.glo_ok X G (cd.fact 21 (f := .glo "_law_line_of") rfl)
  have m__law_path := He.glo_ok X G (cd.fact 22 (f := .glo "_law_path") rfl)
  have m__law_entry := He.glo_ok X G (cd.fact 23 (f := .glo "_law_entry") rfl)
  have m__law_thing := He.glo_ok X G (cd.fact 24 (f := .glo "_law_thing") rfl)
  have m__law_entry_of := He.glo_ok X G (cd.fact 25 (f := .glo "_law_entry_of") rfl)
  have m__law_due := He.glo_ok X G (cd.fact 26 (f := .glo "_law_due") rfl)
  have m__law_told := He.glo_ok X G (cd.fact 27 (f := .glo "_law_told") rfl)
  have m__law_bent := He.glo_ok X G (cd.fact 28 (f := .glo "_law_bent") rfl)
  have m_law := He.glo_ok X G (cd.fact 29 (f := .glo "law") rfl)
  have B : BT mg := ⟨He.free_ok X G (cd.fact 30 (f := .free "isinstance") rfl), He.free_ok X G (cd.fact 31 (f := .free "all") rfl), He.free_ok X G (cd.fact 32 (f := .free "any") rfl), He.free_ok X G (cd.fact 33 (f := .free "len") rfl), He.free_ok X G (cd.fact 34 (f := .free "str") rfl), He.free_ok X G (cd.fact 35 (f := .free "int") rfl), He.free_ok X G (cd.fact 36 (f := .free "bool") rfl), He.free_ok X G (cd.fact 37 (f := .free "tuple") rfl), He.free_ok X G (cd.fact 38 (f := .free "list") rfl), He.free_ok X G (cd.fact 39 (f := .free "dict") rfl), He.free_ok X G (cd.fact 40 (f := .free "set") rfl), He.free_ok X G (cd.fact 41 (f := .free "range") rfl), He.free_ok X G (cd.fact 42 (f := .free "zip") rfl), He.free_ok X G (cd.fact 43 (f := .free "enumerate") rfl), He.free_ok X G (cd.fact 44 (f := .free "sum") rfl), He.free_ok X G (cd.fact 45 (f := .free "max") rfl), He.free_ok X G (cd.fact 46 (f := .free "min") rfl), He.free_ok X G (cd.fact 47 (f := .free "sorted") rfl), He.free_ok X G (cd.fact 48 (f := .free "repr") rfl), He.free_ok X G (cd.fact 49 (f := .free "ord") rfl)⟩
  obtain ⟨t_LONGEST, q_LONGEST⟩ := He.int_ok X G (cd.fact 50 (f := .int "LONGEST" 8) rfl)
  have g_LONGEST : ∃ u, mg "LONGEST" = some u ∧ RelV (.int 8) u := ⟨_, q_LONGEST, ⟨_, rfl⟩⟩
  obtain ⟨t_DEEPEST, q_DEEPEST⟩ := He.int_ok X G (cd.fact 51 (f := .int "DEEPEST" 5) rfl)
  have g_DEEPEST : ∃ u, mg "DEEPEST" = some u ∧ RelV (.int 5) u := ⟨_, q_DEEPEST, ⟨_, rfl⟩⟩
  obtain ⟨t_MOST_FIGURES, q_MOST_FIGURES⟩ := He.int_ok X G (cd.fact 52 (f := .int "MOST_FIGURES" 30) rfl)
  have g_MOST_FIGURES : ∃ u, mg "MOST_FIGURES" = some u ∧ RelV (.int 30) u := ⟨_, q_MOST_FIGURES, ⟨_, rfl⟩⟩
  obtain ⟨t_LETTERS, q_LETTERS⟩ := He.str_ok X G (cd.fact 53 (f := .str "LETTERS" LETTERS) rfl)
  have g_LETTERS : ∃ u, mg "LETTERS" = some u ∧ RelV (.str LETTERS) u := ⟨_, q_LETTERS, ⟨_, rfl⟩⟩
  obtain ⟨t_NONE, q_NONE⟩ := He.str_ok X G (cd.fact 54 (f := .str "NONE" (AL.S [45])) rfl)
  have g_NONE : ∃ u, mg "NONE" = some u ∧ RelV (.str (AL.S [45])) u := ⟨_, q_NONE, ⟨_, rfl⟩⟩
  obtain ⟨t_FIGURES, q_FIGURES⟩ := He.str_ok X G (cd.fact 55 (f := .str "FIGURES" FIGS) rfl)
  have g_FIGURES : ∃ u, mg "FIGURES" = some u ∧ RelV (.str FIGS) u := ⟨_, q_FIGURES, ⟨_, rfl⟩⟩
  have g_LeaseError : ∃ u, mg "LeaseError" = some u ∧ RelV (.ref (He.ga K "LeaseError")) u := ⟨_, m_LeaseError, rfl⟩
  have g_NoEntry : ∃ u, mg "NoEntry" = some u ∧ RelV (.ref (He.ga K "NoEntry")) u := ⟨_, m_NoEntry, rfl⟩
  have g_NoText : ∃ u, mg "NoText" = some u ∧ RelV (.ref (He.ga K "NoText")) u := ⟨_, m_NoText, rfl⟩
  have g_NoSigns : ∃ u, mg "NoSigns" = some u ∧ RelV (.ref (He.ga K "NoSigns")) u := ⟨_, m_NoSigns, rfl⟩
  have g_NoRow : ∃ u, mg "NoRow" = some u ∧ RelV (.ref (He.ga K "NoRow")) u := ⟨_, m_NoRow, rfl⟩
  have g_FORMS : ∃ u, mg "FORMS" = some u ∧ RelV (.ref (He.ga K "FORMS")) u := ⟨_, m_FORMS, rfl⟩
  obtain ⟨fd_is_whole, F_is_whole⟩ := cd.def_ 0 (d := dd "is_whole" 10) rfl
  obtain ⟨fd_is_word, F_is_word⟩ := cd.def_ 1 (d := dd "is_word" 11) rfl
  obtain ⟨fd_is_path, F_is_path⟩ := cd.def_ 2 (d := dd "is_path" 12) rfl
  obtain ⟨fd_is_time, F_is_time⟩ := cd.def_ 3 (d := dd "is_time" 14) rfl
  obtain ⟨fd_is_entry, F_is_entry⟩ := cd.def_ 4 (d := dd "is_entry" 16) rfl
  obtain ⟨fd_word_of, F_word_of⟩ := cd.def_ 5 (d := dd "word_of" 21) rfl
  obtain ⟨fd_shown_entry, F_shown_entry⟩ := cd.def_ 6 (d := dd "shown_entry" 22) rfl
  obtain ⟨fd_thing_in, F_thing_in⟩ := cd.def_ 7 (d := dd "thing_in" 23) rfl
  obtain ⟨fd_entry_in, F_entry_in⟩ := cd.def_ 8 (d := dd "entry_in" 24) rfl
  obtain ⟨fd_entries_in, F_entries_in⟩ := cd.def_ 9 (d := dd "entries_in" 25) rfl
  obtain ⟨fd_read_cut, F_read_cut⟩ := cd.def_ 10 (d := dd "read_cut" 26) rfl
  obtain ⟨fd_read, F_read⟩ := cd.def_ 11 (d := dd "read" 27) rfl
  obtain ⟨fd__law_room, F__law_room⟩ := cd.def_ 12 (d := dd "_law_room" 29) rfl
  obtain ⟨fd__law_take, F__law_take⟩ := cd.def_ 13 (d := dd "_law_take" 30) rfl
  obtain ⟨fd__law_word_of, F__law_word_of⟩ := cd.def_ 14 (d := dd "_law_word_of" 31) rfl
  obtain ⟨fd__law_line_of, F__law_line_of⟩ := cd.def_ 15 (d := dd "_law_line_of" 32) rfl
  obtain ⟨fd__law_path, F__law_path⟩ := cd.def_ 16 (d := dd "_law_path" 33) rfl
  obtain ⟨fd__law_entry, F__law_entry⟩ := cd.def_ 17 (d := dd "_law_entry" 34) rfl
  obtain ⟨fd__law_thing, F__law_thing⟩ := cd.def_ 18 (d := dd "_law_thing" 35) rfl
  obtain ⟨fd__law_entry_of, F__law_entry_of⟩ := cd.def_ 19 (d := dd "_law_entry_of" 36) rfl
  obtain ⟨fd__law_due, F__law_due⟩ := cd.def_ 20 (d := dd "_law_due" 37) rfl
  obtain ⟨fd__law_told, F__law_told⟩ := cd.def_ 21 (d := dd "_law_told" 38) rfl
  obtain ⟨fd__law_bent, F__law_bent⟩ := cd.def_ 22 (d := dd "_law_bent" 39) rfl
  obtain ⟨fd_law, F_law⟩ := cd.def_ 23 (d := dd "law" 40) rfl
  obtain ⟨fd_init, F_init⟩ := cd.def_ 24 (d := dInit) rfl
  have b_is_whole : Binds K fd_is_whole ["thing"] [] := F_is_whole.bindsN fun _ _ _ _ _ _ us hl => match us, hl with | [_], _ => rfl
  have b_is_word : Binds K fd_is_word ["thing"] [] := F_is_word.bindsN fun _ _ _ _ _ _ us hl => match us, hl with | [_], _ => rfl
  have b_is_path : Binds K fd_is_path ["thing"] [] := F_is_path.bindsN fun _ _ _ _ _ _ us hl => match us, hl with | [_], _ => rfl
  have b_is_time : Binds K fd_is_time ["thing"] [] := F_is_time.bindsN fun _ _ _ _ _ _ us hl => match us, hl with | [_], _ => rfl
  have b_is_entry : Binds K fd_is_entry ["thing"] [] := F_is_entry.bindsN fun _ _ _ _ _ _ us hl => match us, hl with | [_], _ => rfl
  have b_word_of : Binds K fd_word_of ["thing"] [] := F_word_of.bindsN fun _ _ _ _ _ _ us hl => match us, hl with | [_], _ => rfl
  have b_shown_entry : Binds K fd_shown_entry ["entry"] [] := F_shown_entry.bindsN fun _ _ _ _ _ _ us hl => match us, hl with | [_], _ => rfl
  have b_thing_in : Binds K fd_thing_in ["word"] [] := F_thing_in.bindsN fun _ _ _ _ _ _ us hl => match us, hl with | [_], _ => rfl
  have b_entry_in : Binds K fd_entry_in ["row"] [] := F_entry_in.bindsN fun _ _ _ _ _ _ us hl => match us, hl with | [_], _ => rfl
  have b_entries_in : Binds K fd_entries_in ["rows"] [] := F_entries_in.bindsN fun _ _ _ _ _ _ us hl => match us, hl with | [_], _ => rfl
  have b_read_cut : Binds K fd_read_cut ["text"] [] := F_read_cut.bindsN fun _ _ _ _ _ _ us hl => match us, hl with | [_], _ => rfl
  have b_read : Binds K fd_read ["text"] [] := F_read.bindsN fun _ _ _ _ _ _ us hl => match us, hl with | [_], _ => rfl
  have b__law_room : Binds K fd__law_room ["_law_script", "_law_k"] [] := F__law_room.bindsN fun _ _ _ _ _ _ us hl => match us, hl with | [_, _], _ => rfl
  have b__law_take : Binds K fd__law_take ["_law_room_here", "_law_many"] [] := F__law_take.bindsN fun _ _ _ _ _ _ us hl => match us, hl with | [_, _], _ => rfl
  have b__law_word_of : Binds K fd__law_word_of ["_law_thing_here"] [] := F__law_word_of.bindsN fun _ _ _ _ _ _ us hl => match us, hl with | [_], _ => rfl
  have b__law_line_of : Binds K fd__law_line_of ["_law_entry_here"] [] := F__law_line_of.bindsN fun _ _ _ _ _ _ us hl => match us, hl with | [_], _ => rfl
  have b__law_path : Binds K fd__law_path ["_law_room_here"] [] := F__law_path.bindsN fun _ _ _ _ _ _ us hl => match us, hl with | [_], _ => rfl
  have b__law_entry : Binds K fd__law_entry ["_law_room_here"] [] := F__law_entry.bindsN fun _ _ _ _ _ _ us hl => match us, hl with | [_], _ => rfl
  have b__law_thing : Binds K fd__law_thing ["_law_kind", "_law_word"] [] := F__law_thing.bindsN fun _ _ _ _ _ _ us hl => match us, hl with | [_, _], _ => rfl
  have b__law_entry_of : Binds K fd__law_entry_of ["_law_row"] [] := F__law_entry_of.bindsN fun _ _ _ _ _ _ us hl => match us, hl with | [_], _ => rfl
  have b__law_due : Binds K fd__law_due ["_law_line", "_law_cut"] [] := F__law_due.bindsN fun _ _ _ _ _ _ us hl => match us, hl with | [_, _], _ => rfl
  have b__law_told : Binds K fd__law_told ["_law_line", "_law_cut"] [] := F__law_told.bindsN fun _ _ _ _ _ _ us hl => match us, hl with | [_, _], _ => rfl
  have b__law_bent : Binds K fd__law_bent ["_law_room_here", "_law_line"] [] := F__law_bent.bindsN fun _ _ _ _ _ _ us hl => match us, hl with | [_, _], _ => rfl
  have b_init : Binds K fd_init ["self", "row"] [] := F_init.bindsN fun _ _ _ _ _ _ us hl => match us, hl with | [_, _], _ => rfl
  have bl := FunD.bindsA (ps := ["_law_script"]) F_law fun _ _ _ _ _ _ us hl => match us, hl with | [_], _ => rfl
  have eL := hfa.symm.trans m_law
  cases eL
  refine ⟨fd_law, fun s v => bl s [v] rfl, fun base _ _ => ?_⟩
  have T_NoText : ExcD P w K mg base "NoText" (cT K) "row" := ⟨_, fd_init, ["self", "row"], TC, of_decide_eq_true x4, of_decide_eq_true x5, ok_init F_init TC KF.no (dinitB_ok m_LeaseError x3), m_NoText, b_init⟩
  have o_is_whole : FnOk P w K mg base (L2.CX P w) 1 _ fd_is_whole ["thing"] (spD K fIsWhole) := ok_is_whole B F_is_whole
  have c_is_whole : DefOk P w K mg base 1 "is_whole" [] (spD K fIsWhole) := defOk F_is_whole o_is_whole m_is_whole b_is_whole
  have o_is_word : FnOk P w K mg base (L2.CX P w) 1 _ fd_is_word ["thing"] (spD K fIsWord) := ok_is_word B F_is_word g_LONGEST g_LETTERS
  have c_is_word : DefOk P w K mg base 1 "is_word" [] (spD K fIsWord) := defOk F_is_word o_is_word m_is_word b_is_word
  have o_is_path : FnOk P w K mg base (L2.CX P w) 2 _ fd_is_path ["thing"] (spD K fIsPath) := ok_is_path B F_is_path g_DEEPEST c_is_word
  have c_is_path : DefOk P w K mg base 2 "is_path" [] (spD K fIsPath) := defOk F_is_path o_is_path m_is_path b_is_path
  have o_is_time : FnOk P w K mg base (L2.CX P w) 2 _ fd_is_time ["thing"] (spD K fIsTime) := ok_is_time B F_is_time c_is_whole
  have c_is_time : DefOk P w K mg base 2 "is_time" [] (spD K fIsTime) := defOk F_is_time o_is_time m_is_time b_is_time
  have o_is_entry : FnOk P w K mg base (L2.CX P w) 3 _ fd_is_entry ["thing"] (spD K fIsEntry) := ok_is_entry B F_is_entry FO g_FORMS (tab_held (heldOk F_is_path o_is_path (by decide) b_is_path) (heldOk F_is_whole o_is_whole (by decide) b_is_whole) (heldOk F_is_time o_is_time (by decide) b_is_time))
  have c_is_entry : DefOk P w K mg base 3 "is_entry" [] (spD K fIsEntry) := defOk F_is_entry o_is_entry m_is_entry b_is_entry
  have o_word_of : FnOk P w K mg base (L2.CX P w) 1 _ fd_word_of ["thing"] (spD K fWordOf) := ok_word_of B F_word_of g_NONE
  have c_word_of : DefOk P w K mg base 1 "word_of" [] (spD K fWordOf) := defOk F_word_of o_word_of m_word_of b_word_of
  have o_shown_entry : FnOk P w K mg base (L2.CX P w) 2 _ fd_shown_entry ["entry"] (spD K fShown) := ok_shown_entry B F_shown_entry c_word_of
  have c_shown_entry : DefOk P w K mg base 2 "shown_entry" [] (spD K fShown) := defOk F_shown_entry o_shown_entry m_shown_entry b_shown_entry
  have o_thing_in : FnOk P w K mg base (L2.CX P w) 1 _ fd_thing_in ["word"] (spD K fThingIn) := ok_thing_in B F_thing_in g_NONE g_FIGURES g_MOST_FIGURES
  have c_thing_in : DefOk P w K mg base 1 "thing_in" [] (spD K fThingIn) := defOk F_thing_in o_thing_in m_thing_in b_thing_in
  have o_entry_in : FnOk P w K mg base (L2.CX P w) 4 _ fd_entry_in ["row"] (spD K fEntryIn) := ok_entry_in B F_entry_in c_thing_in c_is_entry c_shown_entry
  have c_entry_in : DefOk P w K mg base 4 "entry_in" [] (spD K fEntryIn) := defOk F_entry_in o_entry_in m_entry_in b_entry_in
  have o_entries_in : FnOk P w K mg base (L2.CX P w) 5 _ fd_entries_in ["rows"] (spD K (fEntriesIn (cT K))) := ok_entries_in B F_entries_in c_entry_in T_NoText
  have c_entries_in : DefOk P w K mg base 5 "entries_in" [] (spD K (fEntriesIn (cT K))) := defOk F_entries_in o_entries_in m_entries_in b_entries_in
  have o_read_cut : FnOk P w K mg base (L2.CX P w) 6 _ fd_read_cut ["text"] (spD K (fReadCut (cT K))) := ok_read_cut B F_read_cut c_entries_in T_NoText
  have c_read_cut : DefOk P w K mg base 6 "read_cut" [] (spD K (fReadCut (cT K))) := defOk F_read_cut o_read_cut m_read_cut b_read_cut
  have o_read : FnOk P w K mg base (L2.CX P w) 7 _ fd_read ["text"] (spD K (fRead (cT K))) := ok_read B F_read c_read_cut T_NoText
  have c_read : DefOk P w K mg base 7 "read" [] (spD K (fRead (cT K))) := defOk F_read o_read m_read b_read
  have o__law_room : FnOk P w K mg base (L2.CX P w) 1 _ fd__law_room ["_law_script", "_law_k"] (spRoom K) := ok_law_room B F__law_room
  have c__law_room : DefOk P w K mg base 1 "_law_room" [] (spRoom K) := defOk F__law_room o__law_room m__law_room b__law_room
  have o__law_take : FnOk P w K mg base (L2.CX P w) 1 _ fd__law_take ["_law_room_here", "_law_many"] (spD K fTake) := ok_law_take B F__law_take
  have c__law_take : DefOk P w K mg base 1 "_law_take" [] (spD K fTake) := defOk F__law_take o__law_take m__law_take b__law_take
  have o__law_word_of : FnOk P w K mg base (L2.CX P w) 1 _ fd__law_word_of ["_law_thing_here"] (spD K fWordOf) := ok_law_word_of B F__law_word_of
  have c__law_word_of : DefOk P w K mg base 1 "_law_word_of" [] (spD K fWordOf) := defOk F__law_word_of o__law_word_of m__law_word_of b__law_word_of
  have o__law_line_of : FnOk P w K mg base (L2.CX P w) 2 _ fd__law_line_of ["_law_entry_here"] (spD K fShown) := ok_law_line_of B F__law_line_of c__law_word_of
  have c__law_line_of : DefOk P w K mg base 2 "_law_line_of" [] (spD K fShown) := defOk F__law_line_of o__law_line_of m__law_line_of b__law_line_of
  have o__law_path : FnOk P w K mg base (L2.CX P w) 2 _ fd__law_path ["_law_room_here"] (spD K fPath) := ok_law_path B F__law_path c__law_take
  have c__law_path : DefOk P w K mg base 2 "_law_path" [] (spD K fPath) := defOk F__law_path o__law_path m__law_path b__law_path
  have o__law_entry : FnOk P w K mg base (L2.CX P w) 3 _ fd__law_entry ["_law_room_here"] (spD K fEntry) := ok_law_entry B F__law_entry c__law_take c__law_path
  have c__law_entry : DefOk P w K mg base 3 "_law_entry" [] (spD K fEntry) := defOk F__law_entry o__law_entry m__law_entry b__law_entry
  have o__law_thing : FnOk P w K mg base (L2.CX P w) 1 _ fd__law_thing ["_law_kind", "_law_word"] (spD K fThing) := ok_law_thing B F__law_thing
  have c__law_thing : DefOk P w K mg base 1 "_law_thing" [] (spD K fThing) := defOk F__law_thing o__law_thing m__law_thing b__law_thing
  have o__law_entry_of : FnOk P w K mg base (L2.CX P w) 2 _ fd__law_entry_of ["_law_row"] (spD K fEntryIn) := ok_law_entry_of1 B F__law_entry_of c__law_thing
  have c__law_entry_of : DefOk P w K mg base 2 "_law_entry_of" [] (spD K fEntryIn) := defOk F__law_entry_of o__law_entry_of m__law_entry_of b__law_entry_of
  have o__law_due : FnOk P w K mg base (L2.CX P w) 3 _ fd__law_due ["_law_line", "_law_cut"] (spD K fDue) := ok_law_due B F__law_due c__law_entry_of
  have c__law_due : DefOk P w K mg base 3 "_law_due" [] (spD K fDue) := defOk F__law_due o__law_due m__law_due b__law_due
  have o__law_told : FnOk P w K mg base (L2.CX P w) 8 _ fd__law_told ["_law_line", "_law_cut"] (spD K fDue) := ok_law_told B F__law_told c_read_cut c_read KF m_LeaseError g_NoText g_NoEntry g_NoRow g_NoSigns
  have c__law_told : DefOk P w K mg base 8 "_law_told" [] (spD K fDue) := defOk F__law_told o__law_told m__law_told b__law_told
  have o__law_bent : FnOk P w K mg base (L2.CX P w) 2 _ fd__law_bent ["_law_room_here", "_law_line"] (spD K fBent) := ok_law_bent B F__law_bent c__law_take
  have c__law_bent : DefOk P w K mg base 2 "_law_bent" [] (spD K fBent) := defOk F__law_bent o__law_bent m__law_bent b__law_bent
  exact ok_law ⟨rfl, by decide, by decide⟩ B F_law c__law_room c__law_take c__law_line_of c__law_entry c__law_bent c__law_told c__law_due
end K68

set_option Elab.async false
set_option linter.all false
set_option maxRecDepth 100000
set_option maxHeartbeats 0
namespace K68
open PySem PySem.Spec PyProof.Rows L2 AL
abbrev R : PySem.W.OpenRow := PySem.W.OpenLaw.row PySem.Challenge.rw_appendlease_k68_texts_of_no_log
abbrev qv : Program := PySem.W.view R.prog [40]
def nm1 : List PySem.Str := [("LeaseError" : PySem.Str), ("NoEntry" : PySem.Str), ("NoText" : PySem.Str), ("NoSigns" : PySem.Str), ("NoRow" : PySem.Str), ("LETTERS" : PySem.Str), ("LONGEST" : PySem.Str), ("DEEPEST" : PySem.Str), ("is_whole" : PySem.Str), ("is_word" : PySem.Str), ("is_path" : PySem.Str), ("is_time" : PySem.Str), ("FORMS" : PySem.Str), ("is_entry" : PySem.Str), ("NONE" : PySem.Str), ("FIGURES" : PySem.Str), ("MOST_FIGURES" : PySem.Str), ("word_of" : PySem.Str), ("shown_entry" : PySem.Str), ("thing_in" : PySem.Str), ("entry_in" : PySem.Str), ("entries_in" : PySem.Str), ("read_cut" : PySem.Str), ("read" : PySem.Str), ("_law_room" : PySem.Str), ("_law_take" : PySem.Str), ("_law_word_of" : PySem.Str), ("_law_line_of" : PySem.Str), ("_law_path" : PySem.Str), ("_law_entry" : PySem.Str), ("_law_thing" : PySem.Str), ("_law_entry_of" : PySem.Str), ("_law_due" : PySem.Str), ("_law_told" : PySem.Str), ("_law_bent" : PySem.Str)]
abbrev hk : PySem.W.Hook := hookZ 5 fa fn ts exB
def ob (s : PySem.W.SharedT) : AlZ := obsZ 5 fa fn ts exB (HandSHeadRun.getT s)
theorem ob_eq (s : PySem.W.SharedT) : ob s = hk.obs s.abs := obsZ_eq (HandSHeadRun.getT_eq s)
theorem run (w : World) : HandSHeadRun.RunEq R qv hk ob 3000 nm1 w := by
  exact PySem.W.byRow2 "special-get-raises" (P := fun w => HandSHeadRun.RunEq R qv hk ob 3000 nm1 w) (fun w => by intro os; kernel_rfl) (fun w => by intro os; kernel_rfl) w
end K68

set_option Elab.async false
set_option linter.all false
set_option maxRecDepth 100000
set_option maxHeartbeats 0
open PySem PySem.W PySem.Calls PyProof.Rows
theorem PySem.Challenge.cw_appendlease_k68_texts_of_no_log_holds : PySem.Challenge.rw_appendlease_k68_texts_of_no_log.Holds := by
  w_on; o_law
  refine HandSHeadRun.head_any (r := OpenLaw.row PySem.Challenge.rw_appendlease_k68_texts_of_no_log) (q := view (OpenLaw.row PySem.Challenge.rw_appendlease_k68_texts_of_no_log).prog [40]) (H := K68.hk) (ob := K68.ob) (M := 3000) (loose := K68.nm1) (d := HandSHeadRun.topDef (OpenLaw.row PySem.Challenge.rw_appendlease_k68_texts_of_no_log).prog 40) (kwd := []) K68.ob_eq
    (by kernel_rfl) (fun s => by kernel_rfl) K68.run (by kernel_rfl) (by kernel_rfl) (by kernel_rfl) (by rfl) (by first | assumption | decide +kernel) (by decide +kernel) ⟨rfl, rfl, rfl, rfl, rfl, by decide +kernel⟩ ?hw ?hc
  case hw => w_witness2
  case hc =>
    refine AL.walk_ofG (l := PySem.Challenge.rw_appendlease_k68_texts_of_no_log) (n := 63) (x := "_law_script") (CX := fun w => L2.CX (PySem.Challenge.rw_appendlease_k68_texts_of_no_log).prog w) rfl (by decide) (by kernel_rfl) ?F (fun w H s e s' z => by
      obtain ⟨_, _, _, _, _, _, _, _, _, _, _, _, z⟩ := z
      exact z.elim)
    intro w mg fa h Y G hmg0
    obtain ⟨K, KX, c⟩ := Y
    have hmg : mg ("law" : PySem.Str) = some (.ref fa) := by
      have e : (HandSHeadRun.topDef (OpenLaw.row PySem.Challenge.rw_appendlease_k68_texts_of_no_log).prog 40).name = ("law" : PySem.Str) := by kernel_rfl
      rw [← e]
      exact hmg0
    obtain ⟨fd, hb, hF⟩ := K68.facts (P := (PySem.Challenge.rw_appendlease_k68_texts_of_no_log).prog) (w := w) KX G hmg c
    exact ⟨K, fd, K68.spLaw K 63, KX, hb, fun H a ns hl hO hS => ⟨a, ns, rfl, hl, hO, hS, fun _ => rfl⟩, hF⟩
