import PyProof.Rows.All
import Wide.All
import OpenK.AllK
import Wide.FinOn
import KE.KStateDown
import HandS.ForMost
import HandS.ForExc
import HandS.ExcIs
import HandS.IsInst
import HandS.Codes
import HandS.Conv
import HandS.More
import HandS.SortInts
import HandS.Strs
import HandS.SetKeys
import HandS.Flow
import HandS.NoneIn
import HandS.Defaults
import HandS.CallSlots
import HandS.Deep
import HandS.Wide
import HandS.WideBits
import HandS.Head0
import HandS.Head1
import HandS.Head2
import HandS.HeadEnd
import HandS.HeadHook1
import HandS.HeadHook2
import HandS.HeadHook3
import HandS.HeadHook4
import HandS.ExcValue
import HandS.ExcCtx
import HandS.HotCalls
import HandS.ExcValueHot
import PySem.Challenge.RW_forgethall_k16_refusals_made
set_option Elab.async false
set_option linter.all false
set_option maxRecDepth 100000
set_option maxHeartbeats 4000000
/-! Own rules over the hand layer: calls by packages, fields by a known class, raising, isinstance in an except suite. -/
namespace U
open PySem PySem.Spec PyProof.Rows L2

/-! ### packages: a def, a method, a class that may be called -/
structure Cal (P : Program) (w : World) (K : PySem.W.Frag) (mg : Str → Option Value) (base : Heap) (CX : CXT) (k : Nat) (x : Str) (sp : Sp) (dvs : List V) : Prop where
  ex : ∃ (f : Addr) (fd : FuncData) (ps : List Str) (ds : List Value), FnOk P w K mg base CX k f fd ps sp ∧ mg x = some (.ref f) ∧ PySem.W.keepIn K (.ref f) = true ∧ Binds K fd ps ds ∧ Vals dvs ds
structure Met (P : Program) (w : World) (K : PySem.W.Frag) (mg : Str → Option Value) (base : Heap) (CX : CXT) (k : Nat) (C : Addr) (m : Str) (sp : Sp) (dvs : List V) : Prop where
  ex : ∃ (f : Addr) (fd : FuncData) (ps : List Str) (ds : List Value), Cls K C ∧ Meth K C m f ∧ FnOk P w K mg base CX k f fd ps sp ∧ Binds K fd ps ds ∧ Vals dvs ds
structure Mak (P : Program) (w : World) (K : PySem.W.Frag) (mg : Str → Option Value) (base : Heap) (CX : CXT) (k : Nat) (x : Str) (C : Addr) (sp : Sp) (dvs : List V) : Prop where
  ex : ∃ (f : Addr) (fd : FuncData) (ps : List Str) (ds : List Value), Mk K C f ∧ FnOk P w K mg base CX k f fd ps sp ∧ mg x = some (.ref C) ∧ Binds K fd ps ds ∧ Vals dvs ds

abbrev tCl : Sp → List V → (L2.St → XK) → TA → TE := L2.tCallSD
def tMt (C : Addr) (m : Str) (sp : Sp) (dvs : List V) (E : L2.St → XK) (ta : TE) (t : TA) : TE := fun σ H Q => ta σ H fun x H1 => ∃ a dx fs, x = .ref a ∧ H1 a = some (.ins C dx fs) ∧ fs.lookup m = none ∧
  t σ H1 fun vs H2 => sp (x :: (vs ++ dvs)) H2 Q (E σ)
def tMk (C : Addr) (sp : Sp) (dvs : List V) (E : L2.St → XK) (t : TA) : TE := fun σ H Q => t σ H fun vs H1 => ∀ x dx, H1 x = none → H1 dx = none → dx ≠ x →
  sp (.ref x :: (vs ++ dvs)) (upd (upd H1 dx (.own x)) x (.ins C dx [])) (fun v H2 => v = .non ∧ Q (.ref x) H2) (E σ)

abbrev ES0 : L2.St → XK := fun _ _ _ _ => False
theorem ps0 {X : Cx} {E : L2.St → XK} : ∀ σ, PassesAt CX0 X σ (E σ) := fun _ _ _ _ _ _ _ h => h.elim

section
variable {X : Cx} {CX : CXT} {k j : Nat} {f C : Addr} {fd : FuncData} {ps : List Str} {sp : Sp} {dvs : List V} {ds : List Value} {E : L2.St → XK} {x m : Str} {p pos apos : Pos} {e o : Expr} {es : List Expr} {ta : TE} {t : TA}
theorem pe_c (c : Cal X.prog X.w X.K X.mg X.base CX k x sp dvs) (hr : Room j X.A) (hk : k ≤ j) (hx : ∀ σ, PassesAt CX X σ (E σ)) (hg : Gl X x) (ha : PA X (e :: es) t)
    (hdb : (x == ("__debug__" : Str)) = false := by decide) (he : starEach (e :: es) X.env = (false, eval e X.env) :: starEach es X.env := by rfl) (hpl : (backTo pos (starEach es X.env)).any (·.1) = false := by rfl) :
    PE X (.Call (.Name x p) (e :: es) [] pos) (tCl sp dvs E t) := by
  obtain ⟨f, fd, ps, ds, F, hm, kp, b, d⟩ := c.ex
  exact L2.pe_callSD F (hr.mono hk) hg hm kp b d hx ha hdb he hpl
theorem pe_c0 (c : Cal X.prog X.w X.K X.mg X.base CX k x sp dvs) (hr : Room j X.A) (hk : k ≤ j) (hx : ∀ σ, PassesAt CX X σ (E σ)) (hg : Gl X x)
    (hdb : (x == ("__debug__" : Str)) = false := by decide) : PE X (.Call (.Name x p) [] [] pos) (tCl sp dvs E tNil) := by
  obtain ⟨f, fd, ps, ds, F, hm, kp, b, d⟩ := c.ex
  refine ⟨fun pins s σ H Q I h => ?_⟩
  refine wpAny_Call_Name_kw (ld_glob I hg hm ?_ hdb)
  exact PySem.W.callWith_K0 I.kIn kp (L2.run_fnSD (us := []) F (hr.mono hk) b d (hx σ) I .nil h)
theorem pe_mt {pl : Sem Bool} (c : Met X.prog X.w X.K X.mg X.base CX k C m sp dvs) (hr : Room j X.A) (hk : k ≤ j) (hx : ∀ σ, PassesAt CX X σ (E σ)) (he : PE X o ta) (ha : PA X (e :: es) t)
    (hst : starEach (e :: es) X.env = (false, eval e X.env) :: starEach es X.env := by rfl) (hpl : (backTo pos (starEach es X.env)).any (·.1) = false := by rfl)
    (ht : eval (.Call (.Attribute o m apos) (e :: es) [] pos) X.env = (do
      let ov ← eval o X.env
      standAt apos.atName
      let (f, first) ← holding [ov] (getMethod ov m pl)
      callWith pos f first (backTo pos (starEach (e :: es) X.env)) (backToKw pos (keywordEach [] X.env))) := by rfl) :
    PE X (.Call (.Attribute o m apos) (e :: es) [] pos) (tMt C m sp dvs E ta t) := by
  obtain ⟨f, fd, ps, ds, hc, hm, F, b, d⟩ := c.ex
  refine ⟨fun pins s σ H Q I h => ?_⟩
  refine PySem.W.methodCall_KW (pl := pl) (thn (he.run pins s σ H _ I h) fun u s1 ⟨x, H1, I1, rx, a, dx, fs, ex, ea, l, q⟩ => ?_) ht
  subst ex
  obtain rfl : u = Value.ref a := rx
  refine getmeth_ok I1 ea hc hm l ?_
  refine PySem.W.callWith_K (first := [.ref a]) (h₀ := X.base) I.ok.mod.kin hm.kp (thn (ha.run pos pins s1 σ H1 _ I1 q) fun us s2 ⟨vs, H2, I2, r, q2⟩ => ⟨I2.kIn, ?_⟩) hst hpl
  exact L2.run_fnSD (us := .ref a :: us) (vs := .ref a :: vs) F (hr.mono hk) b d (hx σ) I2 (.cons rfl r) q2
theorem pe_mt0 {pl : Sem Bool} (c : Met X.prog X.w X.K X.mg X.base CX k C m sp dvs) (hr : Room j X.A) (hk : k ≤ j) (hx : ∀ σ, PassesAt CX X σ (E σ)) (he : PE X o ta)
    (ht : eval (.Call (.Attribute o m apos) [] [] pos) X.env = (do
      let ov ← eval o X.env
      standAt apos.atName
      let (f, first) ← holding [ov] (getMethod ov m pl)
      callWith pos f first (backTo pos (starEach [] X.env)) (backToKw pos (keywordEach [] X.env))) := by rfl) :
    PE X (.Call (.Attribute o m apos) [] [] pos) (tMt C m sp dvs E ta tNil) := by
  obtain ⟨f, fd, ps, ds, hc, hm, F, b, d⟩ := c.ex
  refine ⟨fun pins s σ H Q I h => ?_⟩
  refine PySem.W.methodCall_KW (pl := pl) (thn (he.run pins s σ H _ I h) fun u s1 ⟨x, H1, I1, rx, a, dx, fs, ex, ea, l, q⟩ => ?_) ht
  subst ex
  obtain rfl : u = Value.ref a := rx
  refine getmeth_ok I1 ea hc hm l ?_
  exact PySem.W.callWith_K0 (first := [.ref a]) I1.kIn hm.kp (L2.run_fnSD (us := [.ref a]) (vs := [.ref a]) F (hr.mono hk) b d (hx σ) I1 (.cons rfl .nil) q)
theorem run_mk {pins : List (Addr × Obj)} {σ : L2.St} {H : Hp} {s : Shared} {Q : VK} {us : List Value} {vs : List V} (M : Mk X.K C f) (F : FnOk X.prog X.w X.K X.mg X.base CX k f fd ps sp) (hr : Room (k + 1) X.A) (hb : Binds X.K fd ps ds) (hd : Vals dvs ds)
    (hx : PassesAt CX X σ (E σ)) (I : Inv X pins σ H s) (r : Vals vs us)
    (h : ∀ x dx, H x = none → H dx = none → dx ≠ x → sp (.ref x :: (vs ++ dvs)) (upd (upd H dx (.own x)) x (.ins C dx [])) (fun v H2 => v = .non ∧ Q (.ref x) H2) (E σ)) :
    wpAny (model X.prog X.w) X.A (call (.ref C) us) (EP X pins σ Q) X.xe s := by
  have hq := h (s.heap.objs.size + 1) s.heap.objs.size (I.hok.fresh (Nat.le_succ _)) (I.hok.fresh (Nat.le_refl _)) (Nat.ne_of_lt (Nat.lt_succ_self _))
  have I2 := Inv.made (C := C) I
  have r2 : Vals (V.ref (s.heap.objs.size + 1) :: (vs ++ dvs)) (Value.ref (s.heap.objs.size + 1) :: (us ++ ds)) := .cons rfl (r.append hd)
  have hl : (Value.ref (s.heap.objs.size + 1) :: us ++ ds).length = ps.length := by
    have e := r2.length
    rw [F.len _ _ _ _ hq] at e
    exact e.symm
  refine wpAny_call (make_map (f := f) I.kIn M.makes M.init (beq_iff_eq.mp M.fn) (codeAny_mono (F.run _ X.stack _ _ ⟨Value.ref (s.heap.objs.size + 1) :: us, []⟩ (Value.ref (s.heap.objs.size + 1) :: (us ++ ds)) _ _ (E σ) (hr.make C us [])
    (I2.env0.make C us []) (hb _ (Value.ref (s.heap.objs.size + 1) :: us) I2.kIn hl) r2 hq) fun r s' hq' => ?_))
  cases r with
  | error e => exact hx pins _ _ e s' I2 hq'
  | ok fl =>
    cases fl with
    | ret u =>
      obtain ⟨v, H', I3, rv, ev, q3⟩ := I2.after hq'
      subst ev
      exact ⟨rv, ⟨V.ref (s.heap.objs.size + 1), H', I3, rfl, q3⟩⟩
    | next => exact False.elim hq'
    | brk => exact False.elim hq'
    | cont => exact False.elim hq'
theorem pe_mk (c : Mak X.prog X.w X.K X.mg X.base CX k x C sp dvs) (hr : Room j X.A) (hk : k + 1 ≤ j) (hx : ∀ σ, PassesAt CX X σ (E σ)) (hg : Gl X x) (ha : PA X (e :: es) t)
    (hdb : (x == ("__debug__" : Str)) = false := by decide) (he : starEach (e :: es) X.env = (false, eval e X.env) :: starEach es X.env := by rfl) (hpl : (backTo pos (starEach es X.env)).any (·.1) = false := by rfl) :
    PE X (.Call (.Name x p) (e :: es) [] pos) (tMk C sp dvs E t) := by
  obtain ⟨f, fd, ps, ds, M, F, hm, b, d⟩ := c.ex
  refine ⟨fun pins s σ H Q I h => ?_⟩
  refine wpAny_Call_Name_kw (ld_glob I hg hm ?_ hdb)
  refine PySem.W.callWith_K (h₀ := X.base) I.ok.mod.kin M.kp (thn (ha.run pos pins s σ H _ I h) fun us s1 ⟨vs, H1, I1, r, q⟩ => ⟨I1.kIn, ?_⟩) he hpl
  exact run_mk M F (hr.mono hk) b d (hx σ) I1 r q
theorem pe_mk0 (c : Mak X.prog X.w X.K X.mg X.base CX k x C sp dvs) (hr : Room j X.A) (hk : k + 1 ≤ j) (hx : ∀ σ, PassesAt CX X σ (E σ)) (hg : Gl X x)
    (hdb : (x == ("__debug__" : Str)) = false := by decide) : PE X (.Call (.Name x p) [] [] pos) (tMk C sp dvs E tNil) := by
  obtain ⟨f, fd, ps, ds, M, F, hm, b, d⟩ := c.ex
  refine ⟨fun pins s σ H Q I h => ?_⟩
  refine wpAny_Call_Name_kw (ld_glob I hg hm ?_ hdb)
  exact PySem.W.callWith_K0 I.kIn M.kp (run_mk (us := []) M F (hr.mono hk) b d (hx σ) I .nil h)
end

/-! ### a field of an instance of a known class -/
def tFd (C : Addr) (ta : TE) (f : Str) : TE := fun σ H Q => ta σ H fun x H1 => ∃ a dx fs v, x = .ref a ∧ H1 a = some (.ins C dx fs) ∧ fs.lookup f = some v ∧ Q v H1
def sFd (C : Addr) (ta tv : TE) (f : Str) : TS := fun D σ H => tv σ H fun y H1 => ta σ H1 fun x H2 => ∃ a dx fs, x = .ref a ∧ H2 a = some (.ins C dx fs) ∧ fs.length < 1000 ∧ D.nx σ (upd H2 a (.ins C dx (putF f y fs)))
/-- e.f += value, whole numbers -/
def sFdAdd (C : Addr) (ta tv : TE) (f : Str) : TS := fun D σ H => ta σ H fun x H1 => ∃ a dx fs i, x = .ref a ∧ H1 a = some (.ins C dx fs) ∧ fs.lookup f = some (.int i) ∧
  tv σ H1 fun y H2 => ∃ j dx' fs', y = .int j ∧ H2 a = some (.ins C dx' fs') ∧ fs'.length < 1000 ∧ D.nx σ (upd H2 a (.ins C dx' (putF f (.int (i + j)) fs')))
section
variable {X : Cx} {o e value : Expr} {f : Str} {pos pos' tpos : Pos} {ta tv : TE} {C : Addr}
theorem pe_fd (c : Cls X.K C) (n : NoAttr X.K C f) (he : PE X e ta) (hb : attributeBase e f X.env (eval e X.env) = eval e X.env := by rfl) : PE X (.Attribute e f pos) (tFd C ta f) := by
  refine ⟨fun pins s σ H Q I h => ?_⟩
  refine attr_of hb (thn (he.run pins s σ H _ I h) fun u s1 ⟨x, H1, I1, rx, a, dx, fs, v, ex, ea, l, q⟩ => ?_)
  subst ex
  obtain rfl : u = Value.ref a := rx
  exact getattr_ok I1 ea c n l fun u' s2 I2 ru => ⟨v, H1, I2, ru, q⟩
theorem ps_fd (c : Cls X.K C) (n : NoAttr X.K C f) (ha : PE X o ta) (hv : PE X value tv) (hs : swapsWith value (some (.Attribute o f pos')) pos.line X.env = pure false := by rfl) : PS X (.Assign [.Attribute o f pos'] value pos) (sFd C ta tv f) := by
  refine ⟨fun pins s σ H D I h => ?_⟩
  refine plainObj_wpAny_Assign_Attribute (thn (hv.run pins s σ H _ I h) fun u s1 ⟨y, H1, I1, ry, q⟩ => thn (ha.run pins s1 σ H1 _ I1 q) fun ov s2 ⟨x, H2, I2, rx, a, dx, fs, ex, ea, l, q2⟩ => ?_) hs
  subst ex
  obtain rfl : ov = Value.ref a := rx
  exact setattr_ok I2 ea c n l ry fun s3 I3 => ⟨σ, _, I3, q2⟩
theorem ps_fdadd (c : Cls X.K C) (n : NoAttr X.K C f) (ha : PE X o ta) (hv : PE X value tv) : PS X (.AugAssign (.Attribute o f tpos) .Add value pos) (sFdAdd C ta tv f) := by
  refine ⟨fun pins s σ H D I h => ?_⟩
  refine wpAny_AugAssign_AttributeAny (thn (ha.run pins s σ H _ I h) fun ov s1 ⟨x, H1, I1, rx, a, dx, fs, i, ex, ea, l, q⟩ => ?_)
  subst ex
  obtain rfl : ov = Value.ref a := rx
  refine getattr_ok I1 ea c n l fun u s2 I2 ru => thn (hv.run pins s2 σ H1 _ I2 q) fun w3 s3 ⟨y, H2, I3, ry, j, dx', fs', ey, ea', l', q3⟩ => ?_
  subst ey
  refine thn (in_add (X := X) pins s3 σ H2 (.int i) (.int j) u w3 (fun z H3 => z = .int (i + j) ∧ H3 = H2) I3 ru ry ⟨i, j, rfl, rfl, rfl, rfl⟩) fun w4 s4 ⟨z, H3, I4, rz, ez, eH⟩ => ?_
  subst ez
  subst eH
  exact setattr_ok I4 ea' c n l' rz fun s5 I5 => ⟨σ, _, I5, q3⟩
end

/-! ### constants of the module -/
section
variable {X : Cx} {x : Str} {pos : Pos}
theorem pe_gi {i : Int} (hg : Gl X x) (h : ∃ t, X.mg x = some (.int i t)) (hd : (x == ("__debug__" : Str)) = false := by decide) : PE X (.Name x pos) (tC (.int i)) := by
  obtain ⟨t, h⟩ := h
  exact pe_glob hg h ⟨t, rfl⟩ hd
theorem pe_gs {z : Str} (hg : Gl X x) (h : ∃ t, X.mg x = some (.str z t)) (hd : (x == ("__debug__" : Str)) = false := by decide) : PE X (.Name x pos) (tC (.str z)) := by
  obtain ⟨t, h⟩ := h
  exact pe_glob hg h ⟨t, rfl⟩ hd
theorem pe_gr {a : Addr} (hg : Gl X x) (h : X.mg x = some (.ref a)) (hd : (x == ("__debug__" : Str)) = false := by decide) : PE X (.Name x pos) (tC (.ref a)) := pe_glob hg h rfl hd
theorem pe_ty {T : String} (hg : Gl X x) (hm : X.mg x = none) (hv : bootBuiltins x = some (.type T)) (hn : x ≠ "__name__" := by decide) (hd : (x == ("__debug__" : Str)) = false := by decide) : PE X (.Name x pos) (tC (.ty T)) := pe_bltn hg hm hv rfl hn hd
end

/-! ### raising: own classes over HallError, made with a text -/
/-- what the written part says of an error class -/
structure ErrC (K : PySem.W.Frag) (C : Addr) : Prop where
  x : PySem.W.excIn K C He.veBase "ValueError.__new__" = true
  k : PySem.W.keepIn K (.ref C) = true
  b : PySem.W.subIn K (.ref C) (.type "BaseException") = some true
  t : PySem.W.typeIn K (.ref C) = some (.type "type")
def tRs (C : Addr) (W : WX) : TS := fun _ σ H => W (.ref C) none σ H
theorem ps_rs {X : Cx} {C : Addr} {W : WX} {x m : Str} {j : Nat} {p p2 pos pos2 : Pos} (hc : X.calm = true) (tk : Takes X W) (T : ErrC X.K C) (gC : X.mg x = some (.ref C)) (hg : Gl X x) (hdb : (x == ("__debug__" : Str)) = false := by decide) :
    PS X (.Raise (some (.Call (.Name x p) [.Constant (.str m) j p2] [] pos)) none pos2) (tRs C W) :=
  ps_raise hc tk (pmk_own PySem.F.excBase_ValueError T.x gC T.k (raises_own T.b T.t) hg hdb)

/-! ### isinstance of a caught error -/
def rIsX (K : PySem.W.Frag) (a : Addr) (cls : Value) (d : Option Addr) : List V → Hp → VK → Prop := fun xs H Q => ∃ (D : Addr) (c : V) (cv : Value) (b : Bool), cls = .ref D ∧ d = none ∧ ExcC K D ∧ xs = [.ref a, c] ∧ ClsV c cv ∧ PySem.W.kitOne K (.ref D) cv = some b ∧ Q (.bl b) H
def rIsXT (K : PySem.W.Frag) (a : Addr) (cls : Value) (d : Option Addr) : List V → Hp → VK → Prop := fun xs H Q => ∃ (D tp : Addr) (cs : List V) (us : List Value) (b : Bool), cls = .ref D ∧ d = none ∧ ExcC K D ∧ xs = [.ref a, .ref tp] ∧ H tp = some (.tup cs) ∧ Paired ClsV cs us ∧ PySem.W.kitAny K (.ref D) us = some b ∧ Q (.bl b) H
section
variable {X : Cx} {a : Addr} {oe : Obj} {cls : Value} {d : Option Addr} {pn : List (Addr × Obj)}
theorem inst_exc {pins : List (Addr × Obj)} {s : Shared} {σ : L2.St} {H : Hp} {D : Addr} (hz : Zc (.ref D) none oe) (hf : ∃ vs, oe.data = .fields vs) (I : Inv (X.suite a ((a, oe) :: pn)) pins σ H s) : PySem.W.InstAt s.heap a oe D none := by
  obtain ⟨hget, _⟩ := I.pin (a, oe) (List.mem_append.mpr (.inl List.mem_cons_self))
  obtain ⟨vs, hv⟩ := hf
  obtain ⟨oc, od, oda, osl⟩ := oe
  obtain ⟨h1, h2⟩ := hz
  dsimp only at h1 h2 hv
  subst h1 h2 hv
  exact ⟨hget, rfl, rfl, trivial⟩
theorem call_isX (hz : Zc cls d oe) (hf : ∃ vs, oe.data = .fields vs) : CallR (X.suite a ((a, oe) :: pn)) (.builtin "isinstance") (rIsX X.K a cls d) := by
  intro pins s σ H xs us Q I r h
  obtain ⟨D, c, cv, b, rfl, rfl, C, rfl, hcv, e, q⟩ := h
  obtain ⟨u1, u2, rfl, r1, r2⟩ := vals2 r
  have e2 := hcv.eq r2
  subst e2
  cases (show u1 = Value.ref a from r1)
  exact PySem.W.kia_one (PySem.W.handS_kitx_exc C.hg C.hk C.hs C.hd C.ha C.hn C.ht C.hm) I.kIn (inst_exc hz hf I) e (fun z => nomatch z) fun tk => ⟨.bl b, H, I.kept (t' := tk) fun _ _ z => z, rfl, q⟩
theorem call_isXT (hz : Zc cls d oe) (hf : ∃ vs, oe.data = .fields vs) : CallR (X.suite a ((a, oe) :: pn)) (.builtin "isinstance") (rIsXT X.K a cls d) := by
  intro pins s σ H xs us Q I r h
  obtain ⟨D, tp, cs, ws, b, rfl, rfl, C, rfl, hT, k, e, q⟩ := h
  obtain ⟨u1, u2, rfl, r1, r2⟩ := vals2 r
  cases (show u2 = Value.ref tp from r2)
  cases (show u1 = Value.ref a from r1)
  obtain ⟨_, its, rv, o, h1, h2, n, h3⟩ := (show ObjOk X.prog X.w H s.heap tp (.tup cs) from I.hok tp _ hT)
  have e3 := ClsV.all k rv
  subst e3
  obtain ⟨oc, od, dt, sl⟩ := o
  simp only at h2 h3
  subst h2 h3
  exact PySem.W.kia_tup (PySem.W.handS_kitx_exc C.hg C.hk C.hs C.hd C.ha C.hn C.ht C.hm) I.kIn (inst_exc hz hf I) h1 e (fun z => nomatch z) fun tk => ⟨.bl b, H, I.kept (t' := tk) fun _ _ z => z, rfl, q⟩
end
end U

set_option Elab.async false
set_option linter.all false
set_option maxRecDepth 100000
set_option maxHeartbeats 4000000
/-! Names for the readings, so that readings can be printed by a program. -/
namespace U
open PySem PySem.Spec PyProof.Rows L2
abbrev rAddI : R2 := rI0 fun i j => .int (i + j)
abbrev rSubI : R2 := rI0 fun i j => .int (i - j)
abbrev rMulI : R2 := rI CMul fun i j => .int (i * j)
abbrev rFdivI : R2 := rI CDivW fun i j => .int (i / j)
abbrev rModI : R2 := rI (fun _ j => 0 < j) fun i j => .int (i % j)
abbrev rPowI : R2 := rI CPow fun i j => .int (i ^ j.toNat)
abbrev rLtI : R2 := rI0 fun i j => .bl (decide (i < j))
abbrev rLeI : R2 := rI0 fun i j => .bl (decide (i ≤ j))
abbrev rGtI : R2 := rI0 fun i j => .bl (decide (j < i))
abbrev rGeI : R2 := rI0 fun i j => .bl (decide (j ≤ i))
abbrev rIsNn : R2 := fun x y H Q => y = .non ∧ Q (.bl (decide (x = .non))) H
abbrev rNotNn : R2 := fun x y H Q => y = .non ∧ Q (.bl (!decide (x = .non))) H
abbrev rAddS : R2 := fun x y H Q => ∃ i j, x = .str i ∧ y = .str j ∧ i.length + j.length ≤ sizeLine ∧ Q (.str (i ++ j)) H
abbrev rInSg : R2 := fun x y H Q => ∃ (c : Nat) (z : Str), x = .str ⟨#[c]⟩ ∧ y = .str z ∧ Q (.bl (decide (c ∈ z.cps.toList))) H
abbrev rNiSg : R2 := fun x y H Q => ∃ (c : Nat) (z : Str), x = .str ⟨#[c]⟩ ∧ y = .str z ∧ Q (.bl (!decide (c ∈ z.cps.toList))) H
abbrev RC := List V → Hp → VK → Prop
abbrev RM := V → List V → Hp → VK → Prop
abbrev rAbs : RC := fun xs H Q => ∃ i, xs = [.int i] ∧ Q (.int (if i < 0 then -i else i)) H
abbrev rMax2 : RC := fun xs H Q => ∃ i j, xs = [.int i, .int j] ∧ Q (.int (if j > i then j else i)) H
abbrev rMin2 : RC := fun xs H Q => ∃ i j, xs = [.int i, .int j] ∧ Q (.int (if j < i then j else i)) H
abbrev rDivmod : RC := fun xs H Q => ∃ i j, xs = [.int i, .int j] ∧ CDivP i j ∧ ∀ p, H p = none → Q (.ref p) (upd H p (.tup [.int (i / j), .int (i % j)]))
theorem two200 : (2 : Nat) ^ 200 = 1606938044258990275541962092341162602522202993782792835301376 := by decide
theorem cdw {i j : Int} (h0 : 0 < j) (h1 : j ≤ 1000000000000000000000000000000000000000000000000000000000000) : CDivW i j := by
  refine wide_div (b := 200) h0 ?_ (by decide) (by decide)
  rw [two200]
  omega
theorem cdp {i j : Int} (h0 : 0 < j) (h1 : j ≤ 1000000000000000000000000000000000000000000000000000000000000) : CDivP i j := ⟨h0, PyProof.noPylong_of_log2 (cdw (i := i) h0 h1).2⟩
abbrev rLenSeq (K : PySem.W.Frag) : RC := fun xs H Q => ∃ p ys, xs = [.ref p] ∧ (SqL K H p ys ∨ SqT K H p ys) ∧ Q (.int ys.length) H
abbrev rLenStr : RC := fun xs H Q => ∃ z, xs = [.str z] ∧ z.length ≤ sizeLine ∧ Q (.int z.length) H
abbrev rLenDc : RC := fun xs H Q => ∃ a kvs, xs = [V.ref a] ∧ H a = some (.dK kvs) ∧ Q (.int kvs.length) H
abbrev rListOf (K : PySem.W.Frag) : RC := fun xs H Q => ∃ p ys, xs = [.ref p] ∧ (SqL K H p ys ∨ SqT K H p ys) ∧ ∀ l, H l = none → Q (.ref l) (upd H l (.lst ys))
abbrev rTupleOf (K : PySem.W.Frag) : RC := fun xs H Q => ∃ p ys, xs = [.ref p] ∧ ((SqL K H p ys ∧ ∀ l, H l = none → Q (.ref l) (upd H l (.tup ys))) ∨ (SqT K H p ys ∧ Q (.ref p) H))
abbrev rStrInt : RC := fun xs H Q => ∃ i, xs = [.int i] ∧ i.natAbs.log2 < 1920 ∧ Q (.str (toString i)) H
abbrev rInt1 : RC := fun xs H Q => (∃ i, xs = [.int i] ∧ Q (.int i) H) ∨ ∃ k, xs = [.bl k] ∧ Q (.int (if k then 1 else 0)) H
abbrev rIntStr : RC := fun xs H Q => ∃ a n, xs = [.str a] ∧ PySem.intText? a = some n ∧ a.length ≤ 640 ∧ Q (.int n) H
abbrev mJoin (K : PySem.W.Frag) : RM := fun x xs H Q => ∃ a p, ∃ ys : List Str, x = .str a ∧ xs = [.ref p] ∧ (SqL K H p (ys.map V.str) ∨ SqT K H p (ys.map V.str)) ∧
  (ys.map (·.length)).sum + ys.length * a.length ≤ 16777216 ∧ Q (.str (Txt.join a ys)) H
abbrev mPartition : RM := fun x xs H Q => ∃ a b, x = .str a ∧ xs = [.str b] ∧ (b.length == 0) = false ∧ a.length ≤ sizeLine ∧
  ∀ p, H p = none → Q (.ref p) (upd H p (.tup [.str (Txt.partition a b).1, .str (Txt.partition a b).2.1, .str (Txt.partition a b).2.2]))
abbrev mSplit : RM := fun x xs H Q => ∃ a b, x = .str a ∧ xs = [.str b] ∧ (b.length == 0) = false ∧ a.length + 2 ≤ sizeLine ∧ rNewStrs (Txt.split a b) H Q
abbrev mStarts : RM := fun x xs H Q => ∃ a b, x = .str a ∧ xs = [.str b] ∧ Q (.bl (Txt.startswith a b)) H
abbrev mEnds : RM := fun x xs H Q => ∃ a b, x = .str a ∧ xs = [.str b] ∧ Q (.bl (Txt.endswith a b)) H
abbrev rMulS : R2 := fun x y H Q => ∃ a n, x = .str a ∧ y = .int n ∧ MulOk a n ∧ Q (.str (Txt.mul a n)) H
theorem op_mulS {X : Cx} : OpR X (binaryOp .Mult) rMulS := by
  intro pins s σ H x y v u Q I rx ry h
  obtain ⟨a, n, rfl, rfl, ok, q⟩ := h
  obtain ⟨t, rfl⟩ := rx
  obtain ⟨t', rfl⟩ := ry
  exact SB.mul ok fun t2 k => ⟨.str _, H, I.tok k, ⟨t2, rfl⟩, q⟩

/-! ### d.keys() as a value; sorted(d.keys()) -/
def KeysO (p d : Addr) : HO := .ext fun h => PySem.W.KdlKeysView h p d
def tKeysV (td : TE) : TE := fun σ H Q => td σ H fun x H1 => ∃ d kvs, x = .ref d ∧ Rd H1 d (.dK kvs) ∧ ∀ p, H1 p = none → Q (.ref p) (upd H1 p (KeysO p d))
theorem pe_keysV {X : Cx} {e : Expr} {td : TE} {apos cpos : Pos} (he : PE X e td) (hbase : attributeBase e "keys" X.env (eval e X.env) = eval e X.env := by rfl) (hline : (apos.endLine == cpos.line) = true := by rfl) : PE X (.Call (.Attribute e "keys" apos) [] [] cpos) (tKeysV td) := by
  refine ⟨fun pins s σ H Q I h => ?_⟩
  refine wpAny_Call_method (T := "dict") (id := "dict.keys") hbase rfl hline F.plainAttrs_dict F.slot_dict_keys F.type_dict_keys (thn (he.run pins s σ H _ I h) fun u s1 ⟨x, H1, I1, rx, d, kvs, ex, hd, q⟩ => ?_)
  subst ex
  obtain rfl : u = Value.ref d := rx
  obtain ⟨z, hs, vs, rel, dd⟩ := dk_rd I1.hok hd
  refine ⟨dd.typeIs, dd.mapOf.noDict, ?_⟩
  have ho : (s1.heap.push { cls := .type "dict_keys", data := .fields #[.ref d] }).get? s1.heap.objs.size = some { cls := .type "dict_keys", data := .fields #[.ref d] } := Heap.get?_push_size _ rfl
  have I2 : Inv X pins σ (upd H1 s1.heap.objs.size (KeysO s1.heap.objs.size d)) { s1 with heap := s1.heap.push { cls := .type "dict_keys", data := .fields #[.ref d] } } :=
    I1.laid (t' := s1.toks) (fun b ob q => Heap.get?_push_of_some _ q) (Nat.le_refl _) ⟨⟨_, ho, rfl, rfl⟩, ⟨_, ho⟩, fun h1 h2 ⟨o, e1, e2⟩ k => ⟨o, k o e1, e2⟩⟩
  show wpAny _ _ (callWith cpos (.builtin "dict.keys") [.ref d] [] []) _ X.xe s1
  exact method_meetsIn F.slot_dict_keys F.entry_dict_keys rfl (PySem.evalArgs_none ⟨rfl, dd.typeIs, F.args_dict_keys_1 _, _, PySem.W.kdl_meets_keys (mixKind X.prog X.w) d hs, ⟨vs, dd⟩, ⟨.ref s1.heap.objs.size, _, I2, rfl, q _ (I1.hok.fresh (Nat.le_refl _))⟩⟩)
/-- sorted(d.keys()), fewer than 64 whole numbers -/
abbrev rSortedKV : RC := fun xs H Q => ∃ (a d : Addr) (kvs : List (Key × V)) (ks : List Int), xs = [.ref a] ∧ H a = some (KeysO a d) ∧ Rd H d (.dK kvs) ∧ kvs.map (·.1) = ks.map Sum.inl ∧ ks.length < 64 ∧
  ∀ (ys : List Int) (p : Addr), ys.Perm ks → ys.Pairwise (· ≤ ·) → H p = none → Q (.ref p) (upd H p (.lst (ys.map V.int)))
theorem call_sortedKV {X : Cx} (hcalm : X.calm = true) : CallR X (.builtin "sorted") rSortedKV := by
  intro pins s σ H xs us Q I r q
  obtain ⟨a, d, kvs, ks, ex, ha, hd, hks, h64, q⟩ := q
  subst ex
  obtain ⟨u, eu, rx⟩ := vals1 r
  subst eu
  cases rx
  obtain ⟨z, lo, vs, rel, dd⟩ := dk_rd I.hok hd
  obtain ⟨ep, hat⟩ := dd.dictAt
  obtain ⟨view, _, _⟩ := (show ObjOk X.prog X.w H s.heap a (KeysO a d) from I.hok a _ ha)
  have hkeys : vs.map (·.1) = ks.map Sum.inl := rel.keys.symm.trans hks
  have hl : vs.length = ks.length := by
    have e := congrArg List.length hkeys
    rw [List.length_map, List.length_map] at e
    exact e
  have h16 : vs.length ≤ sizeLine := by rw [hl, sizeLine_eq]; omega
  refine Calls.call_function_entry PyProof.Rows.kind_sorted PyProof.Rows.plain_sorted PyProof.Rows.entry_sorted (PyProof.Rows.args_sorted1 _) ?_
  unfold Builtin.«sorted»
  refine wpAny_bind (m := checkCount "sorted" 1 1 _) (wpAny_pure ?_)
  refine wpAny_bind (PySem.W.kdu_collect (A := X.A.in1) (PySem.W.kdl_keys (r := a) (d := d) (knd := mixKind X.prog X.w) (kvs := vs) (ep := ep)) (I.ok.hd hcalm) ⟨view, hat⟩ h16 fun h' tk acc hk hacc => ?_)
  have hal : acc.toList.length = ks.length := by rw [Array.length_toList, hacc.1, hl]
  have hS : IntsAre acc.toList ks := ints_each hal fun j v e => by
    obtain ⟨k, x, e1, e2⟩ := hacc.2 j v (by rw [← Array.getElem?_toList]; exact e)
    have e3 : (vs.map (·.1))[j]? = some k := by rw [List.getElem?_map, e1]; rfl
    rw [hkeys, List.getElem?_map] at e3
    cases e4 : ks[j]? with
    | none => rw [e4] at e3; cases e3
    | some y =>
      rw [e4] at e3
      have e5 : Sum.inl y = k := Option.some.inj e3
      subst e5
      rcases keyIs_shape (show keyIs (Sum.inl y) v = true from e2) with ⟨i, t, ek, ev⟩ | ⟨z, t, ek, ev⟩
      · cases ek
        exact ⟨y, t, rfl, ev⟩
      · cases ek
  have I1 : Inv X pins σ H { s with heap := h', toks := tk } := I.kept hk
  refine wpAny_bind (wpAny_newList ?_ (by rw [hal, sizeLine_eq]; omega))
  have hoL : (h'.push (seqObj "list" acc.toList.toArray 0)).get? h'.objs.size = some (seqObj "list" acc.toList.toArray 0) := Heap.get?_push_size _ rfl
  show wpAny _ _ _ _ _ { s with heap := h'.push (seqObj "list" acc.toList.toArray 0), toks := tk }
  refine wpAny_bind (wpAny_holding (wpAny_call_entry PyProof.Rows.slot_list_sort ⟨_, hoL, rfl⟩ PyProof.Rows.entry_list_sort
    (PyProof.Rows.list_sort_tree (s := { s with heap := h'.push (seqObj "list" acc.toList.toArray 0), toks := tk }) hoL hS (by rw [hal]; exact h64) fun out ys g1 g2 g3 => ⟨_, rfl, ?_⟩) (PyProof.Rows.args_list_sort _)))
  obtain ⟨e', he'⟩ := PyProof.Rows.sortedHeap_at (vs := acc.toList) (out := out) hoL
  have hlen : (ys.map V.int).length ≤ sizeLine := by
    rw [List.length_map, g2.length_eq]
    exact Nat.le_trans (Nat.le_of_lt h64) (by decide)
  refine wpAny_pure ⟨_, rfl, .ref h'.objs.size, upd H h'.objs.size (.lst (ys.map V.int)), I1.laid (t' := tk) (fun b u e => ?_) (Nat.le_refl _)
    (show ObjOk X.prog X.w _ _ _ (.lst (ys.map V.int)) from ⟨hlen, out.toList, e', vals_of_ints g1, by rw [Array.toArray_toList]; exact he'⟩), rfl, q ys _ g2 g3 (I1.hok.fresh (Nat.le_refl _))⟩
  have hb : b < h'.objs.size := Heap.lt_size e
  rw [PyProof.Rows.sortedHeap_old (Nat.ne_of_lt hb) (by rw [size_push']; exact Nat.lt_succ_of_lt hb)]
  exact Heap.get?_push_of_some _ e

/-! ### errors -/
theorem psL {X : Cx} : ∀ σ, PassesAt (L2.CX X.prog X.w) X σ (ES0 σ) := fun _ _ _ _ _ _ _ h => by
  obtain ⟨_, _, _, _, _, _, _, _, _, _, _, _, z⟩ := h
  exact z.elim
def errNames : List Str := ["NoName", "BadKind", "NoText", "NoPerson", "Taken", "NoKind", "NoMatter", "NoThing", "NoWay", "NoRows", "NoDay", "NoHold", "NoTelling", "NoAnswer", "Answered"]
def excB (K : PySem.W.Frag) (D : Addr) : Bool :=
  He.eqO (PySem.W.findIn K (.ref D) "__getattribute__") (some (some (.builtin "BaseException.__getattribute__"))) && (He.eqO (PySem.W.findIn K (.ref D) "__getattr__") (some none) &&
  (decide (PySem.W.subIn K (.ref D) (.type "BaseException") = some true) && (PySem.W.hasDictIn K D && (He.eqO (PySem.W.findIn K (.ref D) "__class__") (some (some (.builtin "object.__class__"))) &&
  (He.eqO (PySem.W.specialIn K (.builtin "object.__class__") "__get__") (some (some (.builtin "getset_descriptor.__get__"))) && (decide (PySem.W.takesIn K (.builtin "object.__class__") = some true) && decide (PySem.W.mroIn K D (.type "object") = some true)))))))
theorem excB_ok {K : PySem.W.Frag} {D : Addr} (h : excB K D = true) : ExcC K D := by
  obtain ⟨h1, h⟩ := He.ba h
  obtain ⟨h2, h⟩ := He.ba h
  obtain ⟨h3, h⟩ := He.ba h
  obtain ⟨h4, h⟩ := He.ba h
  obtain ⟨h5, h⟩ := He.ba h
  obtain ⟨h6, h⟩ := He.ba h
  obtain ⟨h7, h8⟩ := He.ba h
  exact ⟨He.eqO_ok h1, He.eqO_ok h2, of_decide_eq_true h3, h4, He.eqO_ok h5, He.eqO_ok h6, of_decide_eq_true h7, of_decide_eq_true h8⟩
/-- what is told of the error classes -/
structure ErrK (K : PySem.W.Frag) : Prop where
  exc : ∀ x ∈ errNames, ExcC K (He.ga K x)
  exm : ∀ x ∈ errNames, PySem.W.exmOne K (.ref (He.ga K x)) (.ref (He.ga K "HallError")) = some true
  kit : ∀ x ∈ errNames, ∀ y ∈ errNames, PySem.W.kitOne K (.ref (He.ga K x)) (.ref (He.ga K y)) = some (decide (x = y))
  kitH : ∀ x ∈ errNames, PySem.W.kitOne K (.ref (He.ga K x)) (.ref (He.ga K "HallError")) = some true
  kitV : ∀ x ∈ errNames, PySem.W.kitOne K (.ref (He.ga K x)) (.type "ValueError") = some true
def errB (K : PySem.W.Frag) : Bool := errNames.all fun x => excB K (He.ga K x) && (decide (PySem.W.exmOne K (.ref (He.ga K x)) (.ref (He.ga K "HallError")) = some true) &&
  ((errNames.all fun y => decide (PySem.W.kitOne K (.ref (He.ga K x)) (.ref (He.ga K y)) = some (decide (x = y)))) && (decide (PySem.W.kitOne K (.ref (He.ga K x)) (.ref (He.ga K "HallError")) = some true) && decide (PySem.W.kitOne K (.ref (He.ga K x)) (.type "ValueError") = some true))))
theorem errB_ok {K : PySem.W.Frag} (h : errB K = true) : ErrK K := by
  have h1 := List.all_eq_true.mp h
  refine ⟨fun x hx => excB_ok (He.ba (h1 x hx)).1, fun x hx => of_decide_eq_true (He.ba (He.ba (h1 x hx)).2).1, fun x hx y hy => ?_, fun x hx => ?_, fun x hx => ?_⟩
  · exact of_decide_eq_true (List.all_eq_true.mp (He.ba (He.ba (He.ba (h1 x hx)).2).2).1 y hy)
  · exact of_decide_eq_true (He.ba (He.ba (He.ba (He.ba (h1 x hx)).2).2).2).1
  · exact of_decide_eq_true (He.ba (He.ba (He.ba (He.ba (h1 x hx)).2).2).2).2
end U

set_option Elab.async false
set_option linter.all false
set_option maxRecDepth 100000
set_option maxHeartbeats 4000000
/-! Helpers for the readings: what stays, comprehensions whose element leaves the heap alone, texts, types. -/
namespace U
open PySem PySem.Spec PyProof.Rows L2

/-! ### what stays -/
/-- all that was tracked stays, but what stands at l -/
structure Keep (l : List Addr) (H H' : Hp) : Prop where
  k : ∀ b o, H b = some o → b ∉ l → H' b = some o
theorem Keep.refl {l : List Addr} {H : Hp} : Keep l H H := ⟨fun _ _ h _ => h⟩
theorem Keep.trans {l : List Addr} {H H1 H2 : Hp} (a : Keep l H H1) (b : Keep l H1 H2) : Keep l H H2 := ⟨fun c o h n => b.k c o (a.k c o h n) n⟩
theorem Keep.same {l : List Addr} {H H1 : Hp} (a : Same H H1) : Keep l H H1 := ⟨fun c o h _ => a c o h⟩
theorem Keep.mono {l l' : List Addr} {H H1 : Hp} (a : Keep l H H1) (h : ∀ x, x ∈ l → x ∈ l') : Keep l' H H1 := ⟨fun c o e n => a.k c o e fun z => n (h c z)⟩
theorem Keep.put {l : List Addr} {H H1 : Hp} {p : Addr} {o : HO} (a : Keep l H H1) (h : p ∈ l) : Keep l H (upd H1 p o) := ⟨fun c u e n => by
  have z : c ≠ p := fun z => n (by rw [z]; exact h)
  rw [upd_ne z]
  exact a.k c u e n⟩
theorem Keep.new {l : List Addr} {H H1 : Hp} {p : Addr} {o : HO} (a : Keep l H H1) (h : H p = none) : Keep l H (upd H1 p o) := ⟨fun c u e n => by
  rw [upd_ne (ne_of_none e h)]
  exact a.k c u e n⟩
theorem Keep.free {l : List Addr} {H H1 : Hp} {p : Addr} (a : Keep l H H1) (n : p ∉ l) (h : H1 p = none) : H p = none := by
  cases e : H p with
  | none => rfl
  | some o =>
    rw [a.k p o e n] at h
    cases h
/-- what wasn't there ahead may be changed: all as before -/
theorem Keep.drop {p : Addr} {H0 H H1 : Hp} (a : Keep [p] H H1) (s : Same H0 H) (n : H0 p = none) : Same H0 H1 := fun c o e => a.k c o (s c o e) (by
  intro z
  rw [List.mem_singleton.mp z, n] at e
  cases e)
theorem Keep.seq {K : PySem.W.Frag} {l : List Addr} {H H1 : Hp} {a : Addr} {xs : List V} (k : Keep l H H1) (n : a ∉ l) (h : SqL K H a xs) : SqL K H1 a xs := by
  rcases h with (h | ⟨o, h⟩) | h
  · exact .inl (.inl (k.k _ _ h n))
  · exact .inl (.inr ⟨o, k.k _ _ h n⟩)
  · exact .inr h
theorem same_new {H : Hp} {p : Addr} {o : HO} (h : H p = none) : Same H (upd H p o) := fun c u e => by
  rw [upd_ne (ne_of_none e h)]
  exact e
theorem Same.new {H H1 : Hp} {p : Addr} {o : HO} (a : Same H H1) (h : H1 p = none) : Same H (upd H1 p o) := a.trans (same_new h)
theorem _root_.L2.Same.new {H H1 : Hp} {p : Addr} {o : HO} (a : Same H H1) (h : H1 p = none) : Same H (upd H1 p o) := a.trans (same_new h)
/-- an object that H doesn't know may change -/
theorem Same.mut {H H1 : Hp} {p : Addr} {o : HO} (a : Same H H1) (h : H p = none) : Same H (upd H1 p o) := fun c u e => by
  rw [upd_ne (ne_of_none e h)]
  exact a c u e
theorem seq_upd {K : PySem.W.Frag} {H : Hp} {a p : Addr} {xs : List V} {o : HO} (h : SqL K H a xs) (n : H p = none) : SqL K (upd H p o) a xs := (same_new n).seq h
theorem Same.seqT {K : PySem.W.Frag} {H H' : Hp} {a : Addr} {xs : List V} (e : Same H H') (h : SqT K H a xs) : SqT K H' a xs := by
  rcases h with (h | ⟨o, h⟩) | h
  · exact .inl (.inl (e _ _ h))
  · exact .inl (.inr ⟨o, e _ _ h⟩)
  · exact .inr h

/-! ### slots -/
theorem wipe1 {σ : L2.St} {j : Nat} {v : Option V} : wipe ((wipe σ [j]).set j v) [j] = wipe σ [j] := by
  show ((σ.set j none).set j v).set j none = σ.set j none
  rw [List.set_set, List.set_set]

/-! ### comprehensions whose test and element leave the heap alone -/
section
variable {K : PySem.W.Frag} {tt : TT} {te : TE} {σ : L2.St} {H1 : Hp} {D : Addr} {Q : Hp → Prop} {j : Nat}
/-- over a text -/
theorem lc_str {x : Str} {g : TG} {vs : List Nat} (Pv : Nat → Hp → Prop) (h0 : Pv 0 (upd H1 D (.lst [])))
    (hs : ∀ i c H, x.cps[i]? = some c → Pv i H → g (.str ⟨#[c]⟩) (wipe σ vs) H fun σ2 H2 => wipe σ2 vs = wipe σ vs ∧ tt σ2 H2 fun b H3 =>
      if b = true then te σ2 H3 fun y H4 => ∃ acc, H4 D = some (.lst acc) ∧ acc.length < sizeLine ∧ Pv (i + 1) (upd H4 D (.lst (acc ++ [y]))) else Pv (i + 1) H3) (hd : ∀ H, Pv x.cps.size H → Q H) :
    ∃ W : Nat → Nat → Hp → Prop, (∃ m, W 0 m (upd H1 D (.lst []))) ∧ ∀ i m H, W i m H →
      ((Its x).stop i H ∧ Q H) ∨ ((Its x).go i H ∧ ∃ Nx : Hp → Prop, (∀ H', Nx H' → ∃ m', m' < m ∧ W (i + 1) m' H') ∧ ∀ y H', (Its x).yld i H y H' → g y (wipe σ vs) H' fun σ2 H2 => wipe σ2 vs = wipe σ vs ∧ tt σ2 H2 fun b H3 =>
        if b = true then te σ2 H3 fun y H4 => ∃ acc, H4 D = some (.lst acc) ∧ acc.length < sizeLine ∧ Nx (upd H4 D (.lst (acc ++ [y]))) else Nx H3) := by
  refine ⟨fun i m H => m = x.cps.size - i ∧ i ≤ x.cps.size ∧ Pv i H, ⟨x.cps.size, by simp, Nat.zero_le _, h0⟩, ?_⟩
  rintro i m H ⟨rfl, hi, p⟩
  by_cases hlt : i < x.cps.size
  · refine .inr ⟨hlt, Pv (i + 1), fun H' p' => ⟨x.cps.size - (i + 1), by omega, rfl, hlt, p'⟩, fun y H' z => ?_⟩
    obtain ⟨e, c, hc, rfl⟩ := z
    subst e
    exact hs i c _ hc p
  · have e : i = x.cps.size := by omega
    subst e
    exact .inl ⟨Nat.le_refl _, hd H p⟩
theorem take_snoc {α : Type} {l : List α} {i : Nat} {x : α} (h : l[i]? = some x) : l.take (i + 1) = l.take i ++ [x] := by
  rw [List.take_add_one, h]
  rfl
theorem lcs_fm {x : Str} (p : Nat → Bool) (f : Nat → V) (hx : x.cps.size ≤ 1000000)
    (ht : ∀ c acc (R : Bool → Hp → Prop), c ∈ x.cps.toList → R (p c) (upd H1 D (.lst acc)) → tt ((wipe σ [j]).set j (some (.str ⟨#[c]⟩))) (upd H1 D (.lst acc)) R)
    (he : ∀ c acc (R : VK), c ∈ x.cps.toList → p c = true → R (f c) (upd H1 D (.lst acc)) → te ((wipe σ [j]).set j (some (.str ⟨#[c]⟩))) (upd H1 D (.lst acc)) R)
    (hd : Q (upd H1 D (.lst ((x.cps.toList.filter p).map f)))) :
    ∃ W : Nat → Nat → Hp → Prop, (∃ m, W 0 m (upd H1 D (.lst []))) ∧ ∀ i m H, W i m H →
      ((Its x).stop i H ∧ Q H) ∨ ((Its x).go i H ∧ ∃ Nx : Hp → Prop, (∀ H', Nx H' → ∃ m', m' < m ∧ W (i + 1) m' H') ∧ ∀ y H', (Its x).yld i H y H' → gName j y (wipe σ [j]) H' fun σ2 H2 => wipe σ2 [j] = wipe σ [j] ∧ tt σ2 H2 fun b H3 =>
        if b = true then te σ2 H3 fun y H4 => ∃ acc, H4 D = some (.lst acc) ∧ acc.length < sizeLine ∧ Nx (upd H4 D (.lst (acc ++ [y]))) else Nx H3) := by
  refine lc_str (g := gName j) (vs := [j]) (fun i H => H = upd H1 D (.lst (((x.cps.toList.take i).filter p).map f))) (by simp) (fun i c H hc e => ?_) (fun H e => ?_)
  · subst e
    have hc' : x.cps.toList[i]? = some c := by rw [Array.getElem?_toList]; exact hc
    have hm : c ∈ x.cps.toList := List.mem_of_getElem? hc'
    refine ⟨wipe1, ht c _ _ hm ?_⟩
    have hlen : (((x.cps.toList.take i).filter p).map f).length < sizeLine := by
      rw [List.length_map, sizeLine_eq]
      have h1 := List.length_filter_le p (x.cps.toList.take i)
      rw [List.length_take] at h1
      have h2 : i < x.cps.toList.length := (List.getElem?_eq_some_iff.mp hc').1
      rw [Array.length_toList] at h2
      omega
    by_cases hp : p c = true
    · rw [hp]
      refine iteT (he c _ _ hm hp ⟨_, upd_same, hlen, ?_⟩)
      rw [upd_upd, take_snoc hc', List.filter_append, List.map_append]
      simp [hp]
    · have hp' : p c = false := by simpa using hp
      rw [hp']
      refine iteF ?_
      rw [take_snoc hc', List.filter_append, List.map_append]
      simp [hp']
  · rw [e, ← Array.length_toList, List.take_length]
    exact hd
/-- over a list -/
theorem lcl_fm {a : Addr} {xs : List V} (p : V → Bool) (f : V → V) (hs : SqL K H1 a xs) (hD : H1 D = none) (hx : xs.length ≤ 1000000)
    (ht : ∀ v acc (R : Bool → Hp → Prop), v ∈ xs → R (p v) (upd H1 D (.lst acc)) → tt ((wipe σ [j]).set j (some v)) (upd H1 D (.lst acc)) R)
    (he : ∀ v acc (R : VK), v ∈ xs → p v = true → R (f v) (upd H1 D (.lst acc)) → te ((wipe σ [j]).set j (some v)) (upd H1 D (.lst acc)) R)
    (hd : Q (upd H1 D (.lst ((xs.filter p).map f)))) :
    ∃ W : Nat → Nat → Hp → Prop, (∃ m, W 0 m (upd H1 D (.lst []))) ∧ ∀ i m H, W i m H →
      ((Itl K a).stop i H ∧ Q H) ∨ ((Itl K a).go i H ∧ ∃ Nx : Hp → Prop, (∀ H', Nx H' → ∃ m', m' < m ∧ W (i + 1) m' H') ∧ ∀ y H', (Itl K a).yld i H y H' → gName j y (wipe σ [j]) H' fun σ2 H2 => wipe σ2 [j] = wipe σ [j] ∧ tt σ2 H2 fun b H3 =>
        if b = true then te σ2 H3 fun y H4 => ∃ acc, H4 D = some (.lst acc) ∧ acc.length < sizeLine ∧ Nx (upd H4 D (.lst (acc ++ [y]))) else Nx H3) := by
  refine lc_list (g := gName j) (vs := [j]) (xs := xs) (fun i H => H = upd H1 D (.lst (((xs.take i).filter p).map f))) (by simp) (fun i H _ e => by rw [e]; exact seq_upd hs hD) (fun i c H hc e => ?_) (fun H e => ?_)
  · subst e
    have hm : c ∈ xs := List.mem_of_getElem? hc
    refine ⟨wipe1, ht c _ _ hm ?_⟩
    have hlen : (((xs.take i).filter p).map f).length < sizeLine := by
      rw [List.length_map, sizeLine_eq]
      have h1 := List.length_filter_le p (xs.take i)
      rw [List.length_take] at h1
      have h2 : i < xs.length := (List.getElem?_eq_some_iff.mp hc).1
      omega
    by_cases hp : p c = true
    · rw [hp]
      refine iteT (he c _ _ hm hp ⟨_, upd_same, hlen, ?_⟩)
      rw [upd_upd, take_snoc hc, List.filter_append, List.map_append]
      simp [hp]
    · have hp' : p c = false := by simpa using hp
      rw [hp']
      refine iteF ?_
      rw [take_snoc hc, List.filter_append, List.map_append]
      simp [hp']
  · rw [e, List.take_length]
    exact hd
theorem lcs_m {x : Str} (f : Nat → V) (hx : x.cps.size ≤ 1000000)
    (he : ∀ c acc (R : VK), c ∈ x.cps.toList → R (f c) (upd H1 D (.lst acc)) → te ((wipe σ [j]).set j (some (.str ⟨#[c]⟩))) (upd H1 D (.lst acc)) R)
    (hd : Q (upd H1 D (.lst (x.cps.toList.map f)))) :
    ∃ W : Nat → Nat → Hp → Prop, (∃ m, W 0 m (upd H1 D (.lst []))) ∧ ∀ i m H, W i m H →
      ((Its x).stop i H ∧ Q H) ∨ ((Its x).go i H ∧ ∃ Nx : Hp → Prop, (∀ H', Nx H' → ∃ m', m' < m ∧ W (i + 1) m' H') ∧ ∀ y H', (Its x).yld i H y H' → gName j y (wipe σ [j]) H' fun σ2 H2 => wipe σ2 [j] = wipe σ [j] ∧ tYes σ2 H2 fun b H3 =>
        if b = true then te σ2 H3 fun y H4 => ∃ acc, H4 D = some (.lst acc) ∧ acc.length < sizeLine ∧ Nx (upd H4 D (.lst (acc ++ [y]))) else Nx H3) := by
  refine lcs_fm (fun _ => true) f hx (fun c acc R _ r => r) (fun c acc R hc _ r => he c acc R hc r) ?_
  rw [List.filter_eq_self.mpr (fun _ _ => rfl)]
  exact hd
theorem lcl_m {a : Addr} {xs : List V} (f : V → V) (hs : SqL K H1 a xs) (hD : H1 D = none) (hx : xs.length ≤ 1000000)
    (he : ∀ v acc (R : VK), v ∈ xs → R (f v) (upd H1 D (.lst acc)) → te ((wipe σ [j]).set j (some v)) (upd H1 D (.lst acc)) R)
    (hd : Q (upd H1 D (.lst (xs.map f)))) :
    ∃ W : Nat → Nat → Hp → Prop, (∃ m, W 0 m (upd H1 D (.lst []))) ∧ ∀ i m H, W i m H →
      ((Itl K a).stop i H ∧ Q H) ∨ ((Itl K a).go i H ∧ ∃ Nx : Hp → Prop, (∀ H', Nx H' → ∃ m', m' < m ∧ W (i + 1) m' H') ∧ ∀ y H', (Itl K a).yld i H y H' → gName j y (wipe σ [j]) H' fun σ2 H2 => wipe σ2 [j] = wipe σ [j] ∧ tYes σ2 H2 fun b H3 =>
        if b = true then te σ2 H3 fun y H4 => ∃ acc, H4 D = some (.lst acc) ∧ acc.length < sizeLine ∧ Nx (upd H4 D (.lst (acc ++ [y]))) else Nx H3) := by
  refine lcl_fm (fun _ => true) f hs hD hx (fun c acc R _ r => r) (fun c acc R hc _ r => he c acc R hc r) ?_
  rw [List.filter_eq_self.mpr (fun _ _ => rfl)]
  exact hd
end

/-! ### data -/
theorem dpAll_ints {K : PySem.W.Frag} {H : Hp} : ∀ ns : List Int, DpAll K H (ns.map V.int) (ns.map PyData.int)
  | [] => .nil
  | n :: r => .cons (.int n) (dpAll_ints r)
theorem dpAll_strs {K : PySem.W.Frag} {H : Hp} : ∀ ns : List Str, DpAll K H (ns.map V.str) (ns.map PyData.str)
  | [] => .nil
  | n :: r => .cons (.str n) (dpAll_strs r)

theorem strOk_of {z : Str} (h : ∀ c ∈ z.cps.toList, c < 1114112) : PyData.strOk z = true := by
  unfold PyData.strOk
  rw [← Array.all_toList]
  exact List.all_eq_true.mpr fun c hc => decide_eq_true (h c hc)
theorem canLay_strs : ∀ {l : List Str}, (∀ z ∈ l, ∀ c ∈ z.cps.toList, c < 1114112) → PyData.canLayAll0 (l.map PyData.str) = true
  | [], _ => rfl
  | z :: r, h => by
    show (PyData.strOk z && PyData.canLayAll0 (r.map PyData.str)) = true
    rw [strOk_of (h z (List.mem_cons_self ..)), canLay_strs fun y hy => h y (List.mem_cons_of_mem _ hy)]
    rfl
theorem depth_strs : ∀ l : List Str, PyData.depthAll (l.map PyData.str) = 0
  | [] => by simp [PyData.depthAll]
  | z :: r => by
    rw [List.map_cons, PyData.depthAll, depth_strs r]
    simp [PyData.depth]
theorem shaped_strs {l : List Str} (h : ∀ z ∈ l, ∀ c ∈ z.cps.toList, c < 1114112) : SeqAt.shaped (.list (l.map PyData.str)) = true := by
  unfold SeqAt.shaped
  have e1 : PyData.canLay0 (.list (l.map PyData.str)) = true := canLay_strs h
  have e2 : PyData.depth (.list (l.map PyData.str)) = 1 := by rw [PyData.depth, depth_strs]
  rw [e1, e2]
  rfl
theorem canLay_ints : ∀ l : List Int, PyData.canLayAll0 (l.map PyData.int) = true
  | [] => rfl
  | z :: r => by
    show (true && PyData.canLayAll0 (r.map PyData.int)) = true
    rw [canLay_ints r]
    rfl
theorem depth_ints : ∀ l : List Int, PyData.depthAll (l.map PyData.int) = 0
  | [] => by simp [PyData.depthAll]
  | z :: r => by
    rw [List.map_cons, PyData.depthAll, depth_ints r]
    simp [PyData.depth]
theorem shaped_ints (l : List Int) : SeqAt.shaped (.list (l.map PyData.int)) = true := by
  unfold SeqAt.shaped
  have e1 : PyData.canLay0 (.list (l.map PyData.int)) = true := canLay_ints l
  have e2 : PyData.depth (.list (l.map PyData.int)) = 1 := by rw [PyData.depth, depth_ints]
  rw [e1, e2]
  rfl
theorem eqv_nil (xs : List PyData) : PyData.eqv (.list xs) (.list []) = xs.isEmpty := by
  rw [PyData.eqv]
  cases xs with
  | nil => simp [PyData.eqvAll]
  | cons x r => simp [PyData.eqvAll]

/-! ### the letters -/
abbrev abc : Str := "abcdefghijklmnopqrstuvwxyz"
theorem abc_len : abc.cps.toList.length = 26 := by decide +kernel
theorem abc_size : abc.length = 26 := by decide +kernel

theorem abc_at {d : Int} (h0 : 0 ≤ d) (h1 : d < 26) : ∃ c, atI abc.cps.toList d = some c ∧ c ∈ abc.cps.toList := by
  obtain ⟨j, rfl⟩ : ∃ j : Nat, d = (j : Int) := ⟨d.toNat, by omega⟩
  have hj : j < abc.cps.toList.length := by rw [abc_len]; omega
  exact ⟨abc.cps.toList[j], atI_nat (List.getElem?_eq_getElem hj), List.getElem_mem hj⟩
/-- an item of a written text at a place within -/
theorem str_at {z : Str} {n : Nat} (hn : z.cps.toList.length = n) {d : Int} (h0 : 0 ≤ d) (h1 : d < n) : ∃ c, atI z.cps.toList d = some c ∧ c ∈ z.cps.toList := by
  obtain ⟨j, rfl⟩ : ∃ j : Nat, d = (j : Int) := ⟨d.toNat, by omega⟩
  have hj : j < z.cps.toList.length := by omega
  exact ⟨z.cps.toList[j], atI_nat (List.getElem?_eq_getElem hj), List.getElem_mem hj⟩
theorem joinL_one : ∀ cs : List Nat, TL.joinL [] (cs.map fun c => [c]) = cs
  | [] => rfl
  | [c] => rfl
  | c :: d :: r => by
    show [c] ++ ([] ++ TL.joinL [] ((d :: r).map fun c => [c])) = c :: d :: r
    rw [joinL_one (d :: r)]
    rfl
/-- "".join of single signs -/
theorem join_signs (cs : List Nat) : Txt.join "" (cs.map fun c => (⟨#[c]⟩ : Str)) = SX.S cs := by
  have e := SX.join_S [] (cs.map fun c => [c])
  rw [joinL_one, List.map_map] at e
  exact e
theorem signs_len : ∀ cs : List Nat, ((cs.map fun c => (⟨#[c]⟩ : Str)).map (·.length)).sum = cs.length
  | [] => rfl
  | c :: r => by
    rw [List.map_cons, List.map_cons, List.sum_cons, signs_len r, List.length_cons]
    show 1 + r.length = r.length + 1
    omega

/-! ### names -/
def isNmS (z : Str) : Bool := decide (1 ≤ z.length) && decide (z.length ≤ 8) && z.cps.toList.all fun c => decide (c ∈ abc.cps.toList)
def isNm : V → Bool
  | .str z => isNmS z
  | _ => false

/-! ### a value whose type is known -/
structure TxOk (z : Str) : Prop where
  len : z.length ≤ 100000
  ok : ∀ c ∈ z.cps.toList, c < 1114112
def isStrV : V → Bool
  | .str _ => true
  | _ => false
/-- a text in bounds, or something of a built-in type that is no text -/
def Kn (K : PySem.W.Frag) (H : Hp) (v : V) : Prop := (∃ z, v = .str z ∧ TxOk z) ∨ (isStrV v = false ∧ ∃ T : String, TyX K H v (.type T) ∧ T ∈ ["int", "bool", "NoneType", "list", "tuple", "dict"])
theorem _root_.L2.TyX.same {K : PySem.W.Frag} {H H' : Hp} {v : V} {t : Value} (s : Same H H') (h : TyX K H v t) : TyX K H' v t := by
  cases h with
  | base h =>
    cases h with
    | non => exact .base .non
    | bl x => exact .base (.bl x)
    | int i => exact .base (.int i)
    | str x => exact .base (.str x)
    | flt x => exact .base (.flt x)
    | lst e => exact .base (.lst (s _ _ e))
    | frz e => exact .base (.frz (s _ _ e))
    | tup e => exact .base (.tup (s _ _ e))
    | dK e => exact .base (.dK (s _ _ e))
    | dT e => exact .base (.dT (s _ _ e))
    | ins e cl ha hn htk hm => exact .base (.ins (s _ _ e) cl ha hn htk hm)
  | byt b => exact .byt b
  | set e => exact .set (s _ _ e)
  | kList e c => exact .kList e c
  | kTuple e c => exact .kTuple e c
  | kDict e c => exact .kDict e c
  | fTuple e => exact .fTuple (s _ _ e)
  | fDict e => exact .fDict (s _ _ e)
theorem Kn.same {K : PySem.W.Frag} {H H' : Hp} {v : V} (s : Same H H') (h : Kn K H v) : Kn K H' v := by
  rcases h with h | ⟨h1, T, h2, h3⟩
  · exact .inl h
  · exact .inr ⟨h1, T, TyX.same s h2, h3⟩
theorem kit_str {T : String} (h : T ∈ ["int", "bool", "NoneType", "list", "tuple", "dict"]) : kitB T "str" = some false := by
  simp only [List.mem_cons, List.not_mem_nil, or_false] at h
  rcases h with rfl | rfl | rfl | rfl | rfl | rfl <;> decide +kernel
theorem kit_str_str : kitB "str" "str" = some true := by decide +kernel
section
variable {K : PySem.W.Frag} {H : Hp}
theorem Kn.str {z : Str} (h : TxOk z) : Kn K H (.str z) := .inl ⟨z, rfl, h⟩
theorem Kn.int (i : Int) : Kn K H (.int i) := .inr ⟨rfl, "int", .base (.int i), by simp⟩
theorem Kn.bl (b : Bool) : Kn K H (.bl b) := .inr ⟨rfl, "bool", .base (.bl b), by simp⟩
theorem Kn.non : Kn K H .non := .inr ⟨rfl, "NoneType", .base .non, by simp⟩
theorem Kn.lst {a : Addr} {xs : List V} (h : H a = some (.lst xs)) : Kn K H (.ref a) := .inr ⟨rfl, "list", .base (.lst h), by simp⟩
theorem Kn.tup {a : Addr} {xs : List V} (h : H a = some (.tup xs)) : Kn K H (.ref a) := .inr ⟨rfl, "tuple", .base (.tup h), by simp⟩
theorem Kn.dct {a : Addr} {kvs : List (Key × V)} (h : H a = some (.dK kvs)) : Kn K H (.ref a) := .inr ⟨rfl, "dict", .base (.dK h), by simp⟩
end
/-- isinstance(v, str): the type and the answer -/
theorem Kn.isS (K : PySem.W.Frag) {H : Hp} {v : V} (kn : Kn K H v) : ∃ T : String, TyX K H v (.type T) ∧ PySem.W.kitOne K (.type T) (.type "str") = some (isStrV v) := by
  rcases kn with ⟨z, rfl, h⟩ | ⟨h1, T, ty, ht⟩
  · exact ⟨_, .base (.str z), kit_ty kit_str_str⟩
  · exact ⟨T, ty, by rw [h1]; exact kit_ty (kit_str ht)⟩
theorem Kn.tx {K : PySem.W.Frag} {H : Hp} {z : Str} (kn : Kn K H (.str z)) : TxOk z := by
  rcases kn with ⟨z', e, h⟩ | ⟨h1, _⟩
  · cases e
    exact h
  · cases h1
theorem isNm_notStr {v : V} (h : isStrV v = false) : isNm v = false := by
  cases v with
  | str z => cases h
  | _ => rfl
theorem isStrV_str {v : V} (h : isStrV v = true) : ∃ z, v = .str z := by
  cases v with
  | str z => exact ⟨z, rfl⟩
  | _ => cases h
theorem isNm_str {v : V} (h : isNm v = true) : ∃ z, v = .str z := by
  cases v with
  | str z => exact ⟨z, rfl⟩
  | _ => cases h
theorem TxOk.cut {z : Str} (h : TxOk z) (lo hi : Option Int) : TxOk (cutS z lo hi) := ⟨Nat.le_trans (cutS_length z lo hi) h.1, fun c hc => h.2 c (List.mem_of_mem_drop (List.mem_of_mem_take (by simpa [cutS] using hc)))⟩
theorem str_cat_toList (a b : Str) : (a ++ b).cps.toList = a.cps.toList ++ b.cps.toList := TL.tl_append a b
theorem str_cat_len (a b : Str) : (a ++ b).length = a.length + b.length := by
  have e := congrArg List.length (str_cat_toList a b)
  rw [List.length_append] at e
  simpa [Str.length] using e
theorem TxOk.cat {a b : Str} {n m : Nat} (ha : TxOk a) (hb : TxOk b) (la : a.length ≤ n) (lb : b.length ≤ m) (h : n + m ≤ 100000) : TxOk (a ++ b) := ⟨by rw [str_cat_len]; omega, fun c hc => by
  rw [str_cat_toList] at hc
  rcases List.mem_append.mp hc with hc | hc
  · exact ha.2 c hc
  · exact hb.2 c hc⟩
theorem one_ok {c : Nat} (h : c < 1114112) : TxOk ⟨#[c]⟩ := ⟨(by show 1 ≤ 100000; decide), fun d hd => by
  have e : d = c := by simpa using hd
  rw [e]
  exact h⟩
theorem nil_ok : TxOk "" := ⟨Nat.zero_le _, fun c hc => by
  have e0 : ("" : Str).cps.toList = [] := by decide +kernel
  rw [e0] at hc
  cases hc⟩

/-! ### errors, by their names -/
theorem clsv_errs (K : PySem.W.Frag) : ∀ ys : List Str, Paired ClsV (ys.map fun y => V.ref (He.ga K y)) (ys.map fun y => Value.ref (He.ga K y))
  | [] => .nil
  | y :: r => .cons (.own _) (clsv_errs K r)
theorem kitAny_errs {K : PySem.W.Frag} (EK : ErrK K) {x : Str} (hx : x ∈ errNames) : ∀ ys : List Str, (∀ y ∈ ys, y ∈ errNames) → PySem.W.kitAny K (.ref (He.ga K x)) (ys.map fun y => Value.ref (He.ga K y)) = some (ys.any fun y => decide (x = y))
  | [], _ => rfl
  | y :: r, h => by
    have ih := kitAny_errs EK hx r fun z hz => h z (List.mem_cons_of_mem _ hz)
    have h1 := EK.kit x hx y (h y (List.mem_cons_self ..))
    refine kitAny_cons (b := decide (x = y)) h1 (fun e => ?_) (fun e => ?_)
    · show PySem.W.kitAny K (.ref (He.ga K x)) (r.map fun y => Value.ref (He.ga K y)) = some (decide (x = y) || r.any fun y => decide (x = y))
      rw [ih, e]
      rfl
    · show (decide (x = y) || r.any fun y => decide (x = y)) = true
      rw [e]
      rfl

/-! ### all but one object -/
def off (p : Addr) (H : Hp) : Hp := fun b => if b = p then none else H b
theorem off_at {p b : Addr} {H : Hp} {o : HO} (h : H b = some o) (n : b ≠ p) : off p H b = some o := by
  unfold off
  rw [if_neg n]
  exact h
theorem off_same {p : Addr} {H : Hp} : Same (off p H) H := fun b o h => by
  unfold off at h
  split at h
  · cases h
  · exact h
theorem Keep.off {p : Addr} {H H' : Hp} (k : Keep [p] H H') : Same (off p H) (U.off p H') := fun b o h => by
  have n : b ≠ p := fun e => by
    unfold U.off at h
    rw [if_pos e] at h
    cases h
  exact off_at (k.k b o (off_same _ _ h) (by simp [n])) n
theorem off_of_same {p : Addr} {H H' : Hp} (s : Same H H') : Same (off p H) (off p H') := (Keep.same s).off

/-! ### data in the heap -/
mutual
theorem Dp.same {K : PySem.W.Frag} {H H' : Hp} (s : Same H H') : ∀ {v : V} {d : PyData}, Dp K H v d → Dp K H' v d
  | _, _, .non => .non
  | _, _, .bl b => .bl b
  | _, _, .int i => .int i
  | _, _, .str x => .str x
  | _, _, .lst h hs => .lst (s.seq h) (DpAll.same s hs)
  | _, _, .tup h hs => .tup (Same.seqT s h) (DpAll.same s hs)
theorem DpAll.same {K : PySem.W.Frag} {H H' : Hp} (s : Same H H') : ∀ {vs : List V} {ds : List PyData}, DpAll K H vs ds → DpAll K H' vs ds
  | _, _, .nil => .nil
  | _, _, .cons h hs => .cons (Dp.same s h) (DpAll.same s hs)
end
def tyD : PyData → String
  | .none => "NoneType"
  | .bool _ => "bool"
  | .int _ => "int"
  | .str _ => "str"
  | .list _ => "list"
  | .tuple _ => "tuple"
  | .dict _ => "dict"
theorem _root_.L2.Dp.ty {K : PySem.W.Frag} {H : Hp} {v : V} {d : PyData} (h : Dp K H v d) : TyX K H v (.type (tyD d)) := by
  cases h with
  | non => exact .base .non
  | bl b => exact .base (.bl b)
  | int i => exact .base (.int i)
  | str x => exact .base (.str x)
  | lst h _ =>
    rcases h with (h | ⟨o, h⟩) | h
    · exact .base (.lst h)
    · exact .base (.frz h)
    · obtain ⟨o, its, n, hk, hc, _⟩ := h
      exact .kList hk hc
  | tup h _ =>
    rcases h with (h | ⟨o, h⟩) | h
    · exact .base (.tup h)
    · exact .fTuple h
    · obtain ⟨o, its, n, hk, hc, _⟩ := h
      exact .kTuple hk hc
structure Dt (K : PySem.W.Frag) (H : Hp) (v : V) (d : PyData) : Prop where
  dp : Dp K H v d
  sh : SeqAt.shaped d = true
theorem Dt.same {K : PySem.W.Frag} {H H' : Hp} {v : V} {d : PyData} (s : Same H H') (h : Dt K H v d) : Dt K H' v d := ⟨Dp.same s h.dp, h.sh⟩
theorem Dt.of_off {K : PySem.W.Frag} {p : Addr} {H : Hp} {v : V} {d : PyData} (h : Dt K (off p H) v d) : Dt K H v d := h.same off_same
theorem Kn.of_off {K : PySem.W.Frag} {p : Addr} {H : Hp} {v : V} (h : Kn K (off p H) v) : Kn K H v := Kn.same off_same h
def noDict : PyData → Bool
  | .dict _ => false
  | _ => true
theorem _root_.L2.Dp.nd {K : PySem.W.Frag} {H : Hp} {v : V} {d : PyData} (h : Dp K H v d) : noDict d = true := by
  cases h <;> rfl
def isIntD : PyData → Bool
  | .int _ => true
  | .bool _ => true
  | _ => false
def isBoolD : PyData → Bool
  | .bool _ => true
  | _ => false
def isStrD : PyData → Bool
  | .str _ => true
  | _ => false
def isTupD : PyData → Bool
  | .tuple _ => true
  | _ => false
def tyNames : List String := ["NoneType", "bool", "int", "str", "list", "tuple", "dict"]
theorem tyD_mem (d : PyData) : tyD d ∈ tyNames := by
  cases d <;> simp [tyD, tyNames]
theorem kit7_int : ∀ T ∈ tyNames, kitB T "int" = some (T == "int" || T == "bool") := by decide +kernel
theorem kit7_bool : ∀ T ∈ tyNames, kitB T "bool" = some (T == "bool") := by decide +kernel
theorem kit7_str : ∀ T ∈ tyNames, kitB T "str" = some (T == "str") := by decide +kernel
theorem kit7_tup : ∀ T ∈ tyNames, kitB T "tuple" = some (T == "tuple") := by decide +kernel
theorem kit7_list : ∀ T ∈ tyNames, kitB T "list" = some (T == "list") := by decide +kernel
theorem kit7_dict : ∀ T ∈ tyNames, kitB T "dict" = some (T == "dict") := by decide +kernel
theorem kitD_int {d : PyData} (h : noDict d = true) : kitB (tyD d) "int" = some (isIntD d) := by
  rw [kit7_int _ (tyD_mem d)]
  cases d <;> rfl
theorem kitD_bool {d : PyData} (h : noDict d = true) : kitB (tyD d) "bool" = some (isBoolD d) := by
  rw [kit7_bool _ (tyD_mem d)]
  cases d <;> rfl
theorem kitD_str {d : PyData} (h : noDict d = true) : kitB (tyD d) "str" = some (isStrD d) := by
  rw [kit7_str _ (tyD_mem d)]
  cases d <;> rfl
theorem kitD_tup {d : PyData} (h : noDict d = true) : kitB (tyD d) "tuple" = some (isTupD d) := by
  rw [kit7_tup _ (tyD_mem d)]
  cases d <;> rfl

/-! ### menus: an item of a written list at a drawn place -/
theorem menu {xs : List V} {n : Nat} {d : Int} (P : V → Prop) (hn : xs.length = n) (h0 : 0 ≤ d) (h1 : d < n) (all : ∀ v ∈ xs, P v) : ∃ v, atI xs d = some v ∧ P v := by
  obtain ⟨j, rfl⟩ : ∃ j : Nat, d = (j : Int) := ⟨d.toNat, by omega⟩
  have hj : j < xs.length := by omega
  exact ⟨xs[j], atI_nat (List.getElem?_eq_getElem hj), all _ (List.getElem_mem hj)⟩
theorem Dt.int {K : PySem.W.Frag} {H : Hp} (i : Int) : Dt K H (.int i) (.int i) := ⟨.int i, rfl⟩
theorem Dt.bl {K : PySem.W.Frag} {H : Hp} (i : Bool) : Dt K H (.bl i) (.bool i) := ⟨.bl i, rfl⟩
theorem Dt.non {K : PySem.W.Frag} {H : Hp} : Dt K H .non .none := ⟨.non, rfl⟩
theorem Dt.str {K : PySem.W.Frag} {H : Hp} {z : Str} (h : TxOk z) : Dt K H (.str z) (.str z) := ⟨.str z, by
  unfold SeqAt.shaped
  have e : PyData.canLay0 (.str z) = true := strOk_of h.ok
  rw [e]
  rfl⟩
theorem shaped_parts {d : PyData} (h : SeqAt.shaped d = true) : d.canLay0 = true ∧ d.depth ≤ 64 := ⟨SeqAt.canLay_of_shaped h, SeqAt.depth_of_shaped h⟩
/-- data of some depth -/
structure Dd (n : Nat) (d : PyData) : Prop where
  lay : d.canLay0 = true
  dep : d.depth ≤ n
theorem Dd.sh {n : Nat} {d : PyData} (h : Dd n d) (hn : n ≤ 64) : SeqAt.shaped d = true := by
  unfold SeqAt.shaped
  rw [h.lay, decide_eq_true (Nat.le_trans h.dep hn)]
  rfl
theorem Dd.list {n : Nat} {ds : List PyData} (h : ∀ d ∈ ds, Dd n d) : Dd (n + 1) (.list ds) := by
  constructor
  · show PyData.canLayAll0 ds = true
    induction ds with
    | nil => rfl
    | cons x r ih =>
      show (x.canLay0 && PyData.canLayAll0 r) = true
      rw [(h x (List.mem_cons_self ..)).lay, ih fun y hy => h y (List.mem_cons_of_mem _ hy)]
      rfl
  · rw [PyData.depth]
    have e : PyData.depthAll ds ≤ n := by
      induction ds with
      | nil => simp [PyData.depthAll]
      | cons x r ih =>
        rw [PyData.depthAll]
        exact Nat.max_le.mpr ⟨(h x (List.mem_cons_self ..)).dep, ih fun y hy => h y (List.mem_cons_of_mem _ hy)⟩
    omega
theorem Dd.tuple {n : Nat} {ds : List PyData} (h : ∀ d ∈ ds, Dd n d) : Dd (n + 1) (.tuple ds) := by
  have q := Dd.list h
  exact ⟨q.lay, by have := q.dep; simp only [PyData.depth] at this ⊢; exact this⟩
theorem Dd.int (i : Int) : Dd 0 (.int i) := ⟨rfl, by simp [PyData.depth]⟩
theorem Dd.str {z : Str} (h : TxOk z) : Dd 0 (.str z) := ⟨strOk_of h.ok, by simp [PyData.depth]⟩
theorem Dd.none : Dd 0 .none := ⟨rfl, by simp [PyData.depth]⟩
theorem Dd.bool (b : Bool) : Dd 0 (.bool b) := ⟨rfl, by simp [PyData.depth]⟩
theorem Dd.mono {n m : Nat} {d : PyData} (h : Dd n d) (k : n ≤ m) : Dd m d := ⟨h.lay, Nat.le_trans h.dep k⟩
end U

set_option Elab.async false
set_option linter.all false
set_option maxRecDepth 100000
set_option maxHeartbeats 4000000
/-! Text += text; isinstance of own classes; small facts of texts. -/
namespace U
open PySem PySem.Spec PyProof.Rows L2
theorem iteE {c : Bool} {A B : Prop} (h : c = false) (b : B) : if c = true then A else B := by
  rw [h]
  exact iteF b
abbrev ipS : TIp := rAddS
theorem ip_addS {X : Cx} : PIp X .Add ipS := iop_add_str
/-- what isinstance asks of an own class -/
structure InsK (K : PySem.W.Frag) (C : Addr) : Prop where
  cl : Cls K C
  ha : PySem.W.findIn K (.ref C) "__class__" = some (some (.builtin "object.__class__"))
  hn : PySem.W.specialIn K (.builtin "object.__class__") "__get__" = some (some (.builtin "getset_descriptor.__get__"))
  htk : PySem.W.takesIn K (.builtin "object.__class__") = some true
  hm : PySem.W.mroIn K C (.type "object") = some true
  kit : PySem.W.kitOne K (.ref C) (.ref C) = some true
def insB (K : PySem.W.Frag) (x : Str) : Bool := (He.Fa.cls x).ok K && (He.eqO (PySem.W.findIn K (.ref (He.ga K x)) "__class__") (some (some (.builtin "object.__class__"))) &&
  (He.eqO (PySem.W.specialIn K (.builtin "object.__class__") "__get__") (some (some (.builtin "getset_descriptor.__get__"))) && (decide (PySem.W.takesIn K (.builtin "object.__class__") = some true) &&
  (decide (PySem.W.mroIn K (He.ga K x) (.type "object") = some true) && decide (PySem.W.kitOne K (.ref (He.ga K x)) (.ref (He.ga K x)) = some true)))))
theorem insB_ok {K : PySem.W.Frag} {x : Str} (h : insB K x = true) : InsK K (He.ga K x) := by
  obtain ⟨h1, h⟩ := He.ba h
  obtain ⟨h2, h⟩ := He.ba h
  obtain ⟨h3, h⟩ := He.ba h
  obtain ⟨h4, h⟩ := He.ba h
  obtain ⟨h5, h6⟩ := He.ba h
  exact ⟨He.cls_ok h1, He.eqO_ok h2, He.eqO_ok h3, of_decide_eq_true h4, of_decide_eq_true h5, of_decide_eq_true h6⟩
theorem InsK.ty {K : PySem.W.Frag} {C : Addr} (h : InsK K C) {H : Hp} {a dx : Addr} {fs : List (Str × V)} (e : H a = some (.ins C dx fs)) : TyX K H (.ref a) (.ref C) := .base (.ins e h.cl h.ha h.hn h.htk h.hm)
theorem lit_ok {z : Str} (h : z.length ≤ 100000 ∧ ∀ c ∈ z.cps.toList, c < 1114112) : TxOk z := ⟨h.1, h.2⟩
theorem str_beq (a x : Str) : (a == x) = decide (x = a) := by
  by_cases h : x = a
  · rw [decide_eq_true h, h]
    exact beq_self_eq_true a
  · rw [decide_eq_false h]
    exact beq_eq_false_iff_ne.mpr fun e => h e.symm
theorem str_eq_nil {z : Str} : z = "" ↔ z.length = 0 := ⟨fun e => by rw [e]; rfl, fun e => by
  obtain ⟨a⟩ := z
  have e1 : a.size = 0 := e
  have e2 : a = #[] := Array.eq_empty_of_size_eq_zero e1
  rw [e2]
  rfl⟩
theorem partition_len (z y : Str) : (Txt.partition z y).1.length ≤ z.length ∧ (Txt.partition z y).2.1.length ≤ z.length ∧ (Txt.partition z y).2.2.length ≤ z.length := PyProof.Rows.fact_partition z y
theorem partition_ok {z : Str} (h : TxOk z) (y : Str) : TxOk (Txt.partition z y).1 ∧ TxOk (Txt.partition z y).2.1 ∧ TxOk (Txt.partition z y).2.2 := by
  have hl := partition_len z y
  have hs := PySem.StrLaws.partition_sum z y
  have hm : ∀ c, c ∈ (Txt.partition z y).1.cps.toList ∨ c ∈ (Txt.partition z y).2.1.cps.toList ∨ c ∈ (Txt.partition z y).2.2.cps.toList → c ∈ z.cps.toList := fun c hc => by
    rw [← hs, str_cat_toList, str_cat_toList, List.mem_append, List.mem_append]
    rcases hc with h | h | h
    · exact .inl (.inl h)
    · exact .inl (.inr h)
    · exact .inr h
  exact ⟨⟨Nat.le_trans hl.1 h.1, fun c hc => h.2 c (hm c (.inl hc))⟩, ⟨Nat.le_trans hl.2.1 h.1, fun c hc => h.2 c (hm c (.inr (.inl hc)))⟩, ⟨Nat.le_trans hl.2.2 h.1, fun c hc => h.2 c (hm c (.inr (.inr hc)))⟩⟩
def optV : Option Int → V
  | none => .non
  | some n => .int n
theorem flat_opt (o : Option Int) : flatV (optV o) = true := by cases o <;> rfl
/-- list(d.keys()) -/
abbrev rListKV : RC := fun xs H Q => ∃ (a d : Addr) (kvs : List (Key × V)), xs = [.ref a] ∧ H a = some (KeysO a d) ∧ Rd H d (.dK kvs) ∧ ∀ p, H p = none → Q (.ref p) (upd H p (.lst (kvs.map fun kv => kV kv.1)))
theorem call_listKV {X : Cx} (hcalm : X.calm = true) : CallR X (.type "list") rListKV := by
  intro pins s σ H xs us Q I r q
  obtain ⟨a, d, kvs, ex, ha, hd, q⟩ := q
  subst ex
  obtain ⟨u, eu, rx⟩ := vals1 r
  subst eu
  cases rx
  obtain ⟨z, lo, vs, rel, dd⟩ := dk_rd I.hok hd
  obtain ⟨ep, hat⟩ := dd.dictAt
  obtain ⟨view, _, _⟩ := (show ObjOk X.prog X.w H s.heap a (KeysO a d) from I.hok a _ ha)
  have ek : (kvs.map fun kv => kV kv.1) = vs.map fun p => kV p.1 := by
    have e := congrArg (List.map kV) rel.keys
    rw [List.map_map, List.map_map] at e
    exact e
  refine PySem.W.kdl_call (PySem.W.kdl_keys (r := a) (d := d) (knd := mixKind X.prog X.w) (kvs := vs) (ep := ep)) (I.ok.hd hcalm) ⟨view, hat⟩ (by rw [← rel.length]; exact z) fun h' tk acc c' hk hD hacc => ?_
  have hv : Vals (vs.map fun p => kV p.1) acc.toList := keys_at (by rw [Array.length_toList]; exact hacc.1) fun j v e => hacc.2 j v (by rw [← Array.getElem?_toList]; exact e)
  refine ⟨.ref s.heap.objs.size, upd H s.heap.objs.size (.lst (kvs.map fun kv => kV kv.1)), I.laid (t' := tk) hk (Nat.le_refl _)
    (show ObjOk X.prog X.w _ _ _ (.lst (kvs.map fun kv => kV kv.1)) from ⟨by rw [List.length_map]; exact z, acc.toList, c', by rw [ek]; exact hv, by rw [Array.toArray_toList]; exact hD⟩), rfl, q _ (I.hok.fresh (Nat.le_refl _))⟩
/-- a comprehension over a dict's keys -/
theorem lck_fm {tt : TT} {te : TE} {σ : L2.St} {H1 : Hp} {D : Addr} {Q : Hp → Prop} {j : Nat} {d : Addr} {o : Obj} {kvs : List (Key × V)} (p : Key × V → Bool) (f : Key × V → V) (hd0 : H1 d = some (.frz o (.dK kvs))) (hD : H1 D = none) (hx : kvs.length ≤ 1000000)
    (ht : ∀ kv acc (R : Bool → Hp → Prop), kv ∈ kvs → R (p kv) (upd H1 D (.lst acc)) → tt ((wipe σ [j]).set j (some (kV kv.1))) (upd H1 D (.lst acc)) R)
    (he : ∀ kv acc (R : VK), kv ∈ kvs → p kv = true → R (f kv) (upd H1 D (.lst acc)) → te ((wipe σ [j]).set j (some (kV kv.1))) (upd H1 D (.lst acc)) R)
    (hd : Q (upd H1 D (.lst ((kvs.filter p).map f)))) :
    ∃ W : Nat → Nat → Hp → Prop, (∃ m, W 0 m (upd H1 D (.lst []))) ∧ ∀ i m H, W i m H →
      ((Itk d o kvs).stop i H ∧ Q H) ∨ ((Itk d o kvs).go i H ∧ ∃ Nx : Hp → Prop, (∀ H', Nx H' → ∃ m', m' < m ∧ W (i + 1) m' H') ∧ ∀ y H', (Itk d o kvs).yld i H y H' → gName j y (wipe σ [j]) H' fun σ2 H2 => wipe σ2 [j] = wipe σ [j] ∧ tt σ2 H2 fun b H3 =>
        if b = true then te σ2 H3 fun y H4 => ∃ acc, H4 D = some (.lst acc) ∧ acc.length < sizeLine ∧ Nx (upd H4 D (.lst (acc ++ [y]))) else Nx H3) := by
  refine ⟨fun i m H => m = kvs.length - i ∧ i ≤ kvs.length ∧ H = upd H1 D (.lst (((kvs.take i).filter p).map f)), ⟨kvs.length, by simp, Nat.zero_le _, by simp⟩, ?_⟩
  rintro i m H ⟨rfl, hi, rfl⟩
  have hfz : (upd H1 D (.lst (((kvs.take i).filter p).map f))) d = some (.frz o (.dK kvs)) := by
    rw [upd_ne (ne_of_none hd0 hD)]
    exact hd0
  by_cases hlt : i < kvs.length
  · refine .inr ⟨⟨hfz, hlt⟩, fun H' => H' = upd H1 D (.lst (((kvs.take (i + 1)).filter p).map f)), fun H' p' => ⟨kvs.length - (i + 1), by omega, rfl, hlt, p'⟩, fun y H' z => ?_⟩
    obtain ⟨e, k, v, hk, rfl⟩ := z
    subst e
    have hm : (k, v) ∈ kvs := List.mem_of_getElem? hk
    refine ⟨wipe1, ht (k, v) _ _ hm ?_⟩
    have hlen : (((kvs.take i).filter p).map f).length < sizeLine := by
      rw [List.length_map, sizeLine_eq]
      have h1 := List.length_filter_le p (kvs.take i)
      rw [List.length_take] at h1
      omega
    by_cases hp : p (k, v) = true
    · rw [hp]
      refine iteT (he (k, v) _ _ hm hp ⟨_, upd_same, hlen, ?_⟩)
      rw [upd_upd, take_snoc hk, List.filter_append, List.map_append]
      simp [hp]
    · have hp' : p (k, v) = false := by simpa using hp
      rw [hp']
      refine iteF ?_
      rw [take_snoc hk, List.filter_append, List.map_append]
      simp [hp']
  · have e : i = kvs.length := by omega
    subst e
    refine .inl ⟨⟨hfz, Nat.le_refl _⟩, ?_⟩
    rw [List.take_length]
    exact hd
/-- a comprehension over a list whose element may lay new things -/
theorem lcl_s {K : PySem.W.Frag} {te : TE} {σ : L2.St} {H1 : Hp} {D : Addr} {Q : Hp → Prop} {j : Nat} {a : Addr} {xs : List V} (f : V → V) (hs : SqL K H1 a xs) (hD : H1 D = none) (hx : xs.length ≤ 1000000)
    (he : ∀ v H', v ∈ xs → Same H1 H' → ∀ R : VK, (∀ H'', Same H' H'' → R (f v) H'') → te ((wipe σ [j]).set j (some v)) H' R)
    (hd : ∀ H', Same H1 H' → H' D = some (.lst (xs.map f)) → Q H') :
    ∃ W : Nat → Nat → Hp → Prop, (∃ m, W 0 m (upd H1 D (.lst []))) ∧ ∀ i m H, W i m H →
      ((Itl K a).stop i H ∧ Q H) ∨ ((Itl K a).go i H ∧ ∃ Nx : Hp → Prop, (∀ H', Nx H' → ∃ m', m' < m ∧ W (i + 1) m' H') ∧ ∀ y H', (Itl K a).yld i H y H' → gName j y (wipe σ [j]) H' fun σ2 H2 => wipe σ2 [j] = wipe σ [j] ∧ tYes σ2 H2 fun b H3 =>
        if b = true then te σ2 H3 fun y H4 => ∃ acc, H4 D = some (.lst acc) ∧ acc.length < sizeLine ∧ Nx (upd H4 D (.lst (acc ++ [y]))) else Nx H3) := by
  refine lc_list (g := gName j) (vs := [j]) (xs := xs) (fun i H => Same H1 H ∧ H D = some (.lst ((xs.take i).map f))) ⟨same_new hD, by rw [upd_same]; simp⟩ (fun i H _ e => e.1.seq hs) (fun i c H hc e => ?_) (fun H e => ?_)
  · obtain ⟨s1, hl⟩ := e
    refine ⟨wipe1, he c H (List.mem_of_getElem? hc) s1 _ fun H4 s4 => ⟨_, s4 _ _ hl, ?_, ?_, ?_⟩⟩
    · rw [List.length_map, List.length_take, sizeLine_eq]
      omega
    · exact U.Same.mut (s1.trans s4) hD
    · rw [upd_same, take_snoc hc, List.map_append]
      rfl
  · refine hd H e.1 ?_
    rw [e.2, List.take_length]
/-- what is told of some error classes -/
structure ErrL (l : List Str) (K : PySem.W.Frag) : Prop where
  exc : ∀ x ∈ l, ExcC K (He.ga K x)
  exm : ∀ x ∈ l, PySem.W.exmOne K (.ref (He.ga K x)) (.ref (He.ga K "HallError")) = some true
  kit : ∀ x ∈ l, ∀ y ∈ l, PySem.W.kitOne K (.ref (He.ga K x)) (.ref (He.ga K y)) = some (decide (x = y))
  kitH : ∀ x ∈ l, PySem.W.kitOne K (.ref (He.ga K x)) (.ref (He.ga K "HallError")) = some true
  kitV : ∀ x ∈ l, PySem.W.kitOne K (.ref (He.ga K x)) (.type "ValueError") = some true
def errLB (l : List Str) (K : PySem.W.Frag) : Bool := l.all fun x => excB K (He.ga K x) && (decide (PySem.W.exmOne K (.ref (He.ga K x)) (.ref (He.ga K "HallError")) = some true) &&
  ((l.all fun y => decide (PySem.W.kitOne K (.ref (He.ga K x)) (.ref (He.ga K y)) = some (decide (x = y)))) && (decide (PySem.W.kitOne K (.ref (He.ga K x)) (.ref (He.ga K "HallError")) = some true) && decide (PySem.W.kitOne K (.ref (He.ga K x)) (.type "ValueError") = some true))))
theorem errLB_ok {l : List Str} {K : PySem.W.Frag} (h : errLB l K = true) : ErrL l K := by
  have h1 := List.all_eq_true.mp h
  refine ⟨fun x hx => excB_ok (He.ba (h1 x hx)).1, fun x hx => of_decide_eq_true (He.ba (He.ba (h1 x hx)).2).1, fun x hx y hy => ?_, fun x hx => ?_, fun x hx => ?_⟩
  · exact of_decide_eq_true (List.all_eq_true.mp (He.ba (He.ba (He.ba (h1 x hx)).2).2).1 y hy)
  · exact of_decide_eq_true (He.ba (He.ba (He.ba (He.ba (h1 x hx)).2).2).2).1
  · exact of_decide_eq_true (He.ba (He.ba (He.ba (He.ba (h1 x hx)).2).2).2).2
end U

set_option Elab.async false
set_option linter.all false
set_option maxRecDepth 100000
set_option maxHeartbeats 4000000
/-! Errors held as values (for k16): isinstance of one. -/
namespace U
open PySem PySem.Spec PyProof.Rows L2
/-- isinstance(x, C), x an error that was made and not raised -/
def rIsO (K : PySem.W.Frag) : RC := fun xs H Q => ∃ (a D : Addr) (c : V) (cv : Value) (b : Bool), xs = [.ref a, c] ∧ H a = some (ExO (.ref D) a) ∧ ExcC K D ∧ ClsV c cv ∧ PySem.W.kitOne K (.ref D) cv = some b ∧ Q (.bl b) H
theorem call_isO {X : Cx} : CallR X (.builtin "isinstance") (rIsO X.K) := by
  intro pins s σ H xs us Q I r h
  obtain ⟨a, D, c, cv, b, rfl, ha, C, hcv, e, q⟩ := h
  obtain ⟨⟨oe, vs, hget, hz, hd, _⟩, _, _⟩ := I.hok a _ ha
  obtain ⟨u1, u2, rfl, r1, r2⟩ := vals2 r
  cases hcv.eq r2
  cases (show u1 = Value.ref a from r1)
  have there : s.heap.get? a = some ⟨.ref D, none, .fields vs, oe.slots⟩ := by
    rw [hget, ← hz.1, ← hz.2, ← hd]
  exact PySem.W.kia_one (PySem.W.handS_kitx_exc C.hg C.hk C.hs C.hd C.ha C.hn C.ht C.hm) I.kIn ⟨there, rfl, rfl, trivial⟩ e (fun z => nomatch z) fun tk => ⟨.bl b, H, I.kept (t' := tk) fun _ _ z => z, rfl, q⟩
end U

set_option Elab.async false
set_option linter.all false
set_option maxRecDepth 100000
set_option maxHeartbeats 4000000
/-! Errors whose context is None: raised with a variable's text, caught, handed to a def within the except suite. -/
namespace U
open PySem PySem.Spec PyProof.Rows L2
/-- C(x) as a value -/
def tExc (C : Addr) (ta : TE) : TE := fun σ H Q => ta σ H fun _ H1 => ∀ a, H1 a = none → Q (.ref a) (upd H1 a (ExO (.ref C) a))
/-- for i, x in enumerate(list), the list left as it is -/
theorem for_enum {K : PySem.W.Frag} {a : Addr} {xs : List V} {i1 i2 : Nat} {tb : TS} {D : Ends} {σ : L2.St} {H : Hp} (Pv : Nat → L2.St → Hp → Prop) (h0 : Pv 0 σ H) (hl : ∀ i σ H, i ≤ xs.length → Pv i σ H → SqL K H a xs)
    (hs : ∀ i x σ H T, xs[i]? = some x → Pv i σ H → H T = none → tb { D with nx := Pv (i + 1), ct := Pv (i + 1), bk := D.nx } ((σ.set i1 (some (.int (i : Nat)))).set i2 (some x)) (upd H T (.tup [.int (i : Nat), x]))) (hd : ∀ σ H, Pv xs.length σ H → D.nx σ H) :
    ∃ W : Nat → Nat → L2.St → Hp → Prop, (∃ m, W 0 m σ H) ∧ ∀ i m σ H, W i m σ H →
      ((Ite K a).stop i H ∧ D.nx σ H) ∨ ((Ite K a).go i H ∧ ∃ N : L2.St → Hp → Prop, (∀ σ' H', N σ' H' → ∃ m', m' < m ∧ W (i + 1) m' σ' H') ∧ ∀ x H', (Ite K a).yld i H x H' → gTup K 2 (gCons (gName i1) (gCons (gName i2) gNil)) x σ H' fun σ2 H2 => tb { D with nx := N, ct := N, bk := D.nx } σ2 H2) := by
  refine ⟨fun i m σ H => m + i = xs.length ∧ Pv i σ H, ⟨xs.length, rfl, h0⟩, fun i m σ H ⟨hm, pv⟩ => ?_⟩
  have sq := hl i σ H (by omega) pv
  rcases Nat.lt_or_ge i xs.length with lt | ge
  · refine .inr ⟨⟨xs, xs[i], sq, List.getElem?_eq_getElem lt⟩, Pv (i + 1), fun σ' H' z => ⟨m - 1, by omega, by omega, z⟩, ?_⟩
    rintro _ _ ⟨T, x, rfl, nT, rfl, look⟩
    exact ⟨T, _, rfl, .inl (.inl upd_same), rfl, _, _, rfl, _, _, rfl, rfl, hs i x σ H T (look xs sq) pv nT⟩
  · have ei : i = xs.length := by omega
    subst ei
    exact .inl ⟨⟨xs, sq, Nat.le_refl _⟩, hd σ H pv⟩
/-- isinstance of an error that is pinned -/
theorem call_isP {X : Cx} {a : Addr} {oe : Obj} {cls : Value} {d : Option Addr} (hp : (a, oe) ∈ X.pn) (hz : Zc cls d oe) (hf : ∃ vs, oe.data = .fields vs) : CallR X (.builtin "isinstance") (rIsX X.K a cls d) := by
  intro pins s σ H xs us Q I r h
  obtain ⟨D, c, cv, b, rfl, rfl, C, rfl, hcv, e, q⟩ := h
  obtain ⟨u1, u2, rfl, r1, r2⟩ := vals2 r
  cases hcv.eq r2
  cases (show u1 = Value.ref a from r1)
  obtain ⟨vs, hv⟩ := hf
  have there : s.heap.get? a = some ⟨.ref D, none, .fields vs, oe.slots⟩ := by
    rw [(I.pin (a, oe) (List.mem_append_left _ hp)).1, ← hz.1, ← hz.2, ← hv]
  exact PySem.W.kia_one (PySem.W.handS_kitx_exc C.hg C.hk C.hs C.hd C.ha C.hn C.ht C.hm) I.kIn ⟨there, rfl, rfl, trivial⟩ e (fun z => nomatch z) fun tk => ⟨.bl b, H, I.kept (t' := tk) fun _ _ z => z, rfl, q⟩
theorem takes0N {X : Cx} : L2N.Takes X (fun _ _ _ _ => False) := fun _ _ ⟨_, _, _, _, _, _, _, _, _, _, _, _, _, _, _, _, z⟩ => z.elim
/-- raise C('..') where nothing is handled -/
theorem ps_rsN {X : Cx} {C : Addr} {W : WX} {x m : Str} {j : Nat} {p p2 pos pos2 : Pos} (hc : X.calm = true) (tk : L2N.Takes X W) (T : ErrC X.K C) (gC : X.mg x = some (.ref C)) (hg : Gl X x) (hdb : (x == ("__debug__" : Str)) = false := by decide) :
    PS X (.Raise (some (.Call (.Name x p) [.Constant (.str m) j p2] [] pos)) none pos2) (tRs C W) :=
  L2N.ps_raise hc tk (L2N.pmk_own PySem.F.excBase_ValueError T.x gC T.k (raises_own T.b T.t) hg hdb)
/-- raise C(x), x a variable; H0: the heap at the def's entry -/
def tRsV (C : Addr) (W : WX) (H0 : Hp) (i : Nat) : TS := fun _ σ H => tVar i σ H fun _ H1 => ∀ a, H1 a = none → H0 a = none ∧ W (.ref C) none σ H1
theorem ps_rsV {X : Cx} {C : Addr} {W : WX} {x : Str} {i : Nat} {e : Expr} {p pos pos2 : Pos} (hx : X.ex = []) (hc : X.calm = true) (tk : L2N.Takes X W) (T : ErrC X.K C) (gC : X.mg x = some (.ref C)) (hg : Gl X x) (he : PE X e (tVar i))
    (hs : starEach [e] X.env = (false, eval e X.env) :: starEach [] X.env := by rfl) (hdb : (x == ("__debug__" : Str)) = false := by decide) :
    PS X (.Raise (some (.Call (.Name x p) [e] [] pos)) none pos2) (tRsV C W X.H_0 i) := by
  have mk := L2N.ps_raise (pos := pos2) hc tk (pmk_retN hx (pe_exc1 (p := p) (pos := pos) PySem.F.excBase_ValueError T.x gC T.k hg he hs hdb))
  refine ⟨fun pins s σ H D I h => mk.run pins s σ H D I ?_⟩
  obtain ⟨v, ev, h⟩ := h
  exact ⟨v, ev, fun a ha => ⟨a, .ref C, rfl, upd_same, fr0_none (h a ha).1, raises_own T.b T.t, by rw [delH_new ha]; exact (h a ha).2⟩⟩
/-- a def called within an except suite; p: the error that is handled there -/
theorem pe_hot {X : Cx} {p : Addr × Obj} {k : Nat} {f : Addr} {fd : FuncData} {nm qual x : Str} {params : Arguments} {body : List Stmt} {scope : Scope} {N ps : List Str} {sp : Sp} {q pos : Pos} {e : Expr} {es : List Expr} {t : TA}
    (F : FunD X.K nm qual params body scope [] [] f fd) (S : FnScope N ps scope) (len : ∀ vs H Q E, sp vs H Q E → vs.length = ps.length) (hr : L2H.RoomH k X.A) (hot : L2H.Hot1 X.A p) (hp : p ∈ X.pn)
    (hbody : ∀ (cdv : Value) (A : Around) (outer : List Env) (s : Shared) (H : Hp) (vs : List V) (Q : VK), sp vs H Q E0 →
      ∃ t, PSs (L2H.cxH CX0 X.prog X.w X.K X.mg X.base N qual scope f cdv A outer s H E0 p) body t ∧ t { nx := fun _ H' => Q .non H', rt := Q } (start N vs) H)
    (hg : Gl X x) (hm : X.mg x = some (.ref f)) (hb : Binds X.K fd ps []) (ha : PA X (e :: es) t)
    (hdb : (x == ("__debug__" : Str)) = false := by decide) (he : starEach (e :: es) X.env = (false, eval e X.env) :: starEach es X.env := by rfl) (hpl : (backTo pos (starEach es X.env)).any (·.1) = false := by rfl) :
    PE X (.Call (.Name x q) (e :: es) [] pos) (tCl sp [] ES0 t) := by
  have kp := F.kp
  obtain ⟨oc, od, dV, kV, doc, pm, an, cdv, ct, osl, rfl, lk, hcd, _, _⟩ := F.ex
  refine ⟨fun pins s σ H Q I h => ?_⟩
  refine wpAny_Call_Name_kw (ld_glob I hg hm (PySem.W.callWith_K (h₀ := X.base) I.ok.mod.kin kp (thn (ha.run pos pins s σ H _ I h) fun us s1 hu => ?_) he hpl) hdb)
  obtain ⟨vs, H1, J, rv, hsp⟩ := hu
  rw [List.append_nil] at hsp
  refine ⟨J.kIn, ?_⟩
  obtain ⟨tr, der, rd⟩ := hbody cdv X.A X.stack s1 H1 vs Q hsp
  have nv : vs.length = ps.length := len _ _ _ _ hsp
  have bind := hb s1 us J.kIn (by rw [List.append_nil, ← rv.length]; exact nv)
  rw [List.append_nil] at bind
  obtain ⟨g1, g2, g3, g4, g5⟩ := J.pin p (List.mem_append_left _ hp)
  have stands : L2H.PinOk X.stack H1 s1 p := ⟨g1, g2, fun z => (List.mem_cons.mp (J.stkSub p.1 z)).elim g3 g4, g5⟩
  have room : X.A.depth < recursionLimit := hr.depth
  have names : ∀ y ∈ ps.zip us, scope.names.lookup y.1 = some .local ∨ (scope.names.lookup y.1 = some .cell ∧ ((cellsFrom (s1.heap.objs.size + 1) scope.names []).lookup y.1).isSome = true) := fun y hy =>
    (S.par y.1 (List.of_mem_zip (show (y.1, y.2) ∈ ps.zip us from hy)).1).imp id fun c => ⟨c, PySem.W.cellsFrom_some _ _ _ (.inl c)⟩
  have far : codeAny (model X.prog X.w) X.A (.call (.ref f) ⟨us, []⟩) (CR CX0 X.stack X.prog X.w H1 s1 Q E0) s1 := by
    refine codeAny_call_function room (J.kIn _ _ lk) rfl S.co S.gen rfl (PySem.W.codeRec_of J.kIn hcd) (bind _ _ _ _ (wpAny_newFunctionEnv_cells S.kind names fun env ee s2 inn => ?_))
    subst ee
    refine ⟨(J.env0.mod.nolimit.keeps fun b o z => (J.env0.bs b o z).1).keeps inn.toInCall.keep, codeAny_func (wpAny_mono (der.run [] s2 _ H1 _ (L2H.inv_startH (CX := CX0) (E := E0) S stands J.env0 nv rv inn) rd) (fun fl s' hs => ?_) fun _ _ z => z)⟩
    cases fl with
    | next =>
      obtain ⟨_, H', G, w⟩ := hs
      exact ⟨V.non, H', G.os, G.bare, G.base, G.hok, rfl, w⟩
    | ret u =>
      obtain ⟨v, _, H', G, w1, w2⟩ := hs
      exact ⟨v, H', G.os, G.bare, G.base, G.hok, w1, w2⟩
    | brk => exact hs.elim fun _ ⟨_, _, z⟩ => z.elim
    | cont => exact hs.elim fun _ ⟨_, _, z⟩ => z.elim
  refine wpAny_call (codeAny_mono far fun r s' z => ?_)
  match r, z with
  | .ok (.ret u), z => exact J.after z
  | .ok .next, z => exact z.elim
  | .ok .brk, z => exact z.elim
  | .ok .cont, z => exact z.elim
  | .error _, z => exact z.elim
/-- the suite of a caught error: what is handled -/
theorem hot_suite {X : Cx} {a : Addr} {oe : Obj} {cls : Value} {d : Option Addr} {pn : List (Addr × Obj)} (hz : L2N.Zn cls d oe) (hf : ∃ vs, oe.data = .fields vs) : L2H.Hot1 (X.suite a ((a, oe) :: pn)).A (a, oe) := by
  obtain ⟨vs, e⟩ := hf
  exact ⟨rfl, vs, e, hz.2.2 vs e⟩
theorem room_suite {X : Cx} {a : Addr} {pn : List (Addr × Obj)} {j k : Nat} (hr : Room j X.A) (h : k ≤ j) : L2H.RoomH k (X.suite a pn).A := by
  have r := (L2H.roomH_of hr).mono h
  exact ⟨r.dp, r.un⟩
end U

set_option Elab.async false
set_option linter.all false
set_option maxRecDepth 100000
set_option maxHeartbeats 4000000
/-! Promises: is_name, People. -/
namespace G
open PySem PySem.Spec PyProof.Rows L2 U

/-- is_name(thing) -/
def sp_is_name (K : PySem.W.Frag) : Sp := fun vs H Q _ => match vs with
  | [v] => Kn K H v ∧ ∀ H', Same H H' → Q (.bl (isNm v)) H'
  | _ => False

/-! ### People -/
/-- the people of a house: names with their numbers, numbers with their names, how many numbers were given -/
structure Ppl where
  nm : List (Str × Int)
  nu : List (Int × Str)
  many : Nat
def nmD (l : List (Str × Int)) : List (Key × V) := l.map fun q => (Sum.inr q.1, V.int q.2)
def nuD (l : List (Int × Str)) : List (Key × V) := l.map fun q => (Sum.inl q.1, V.str q.2)
def fPpl (d1 d2 : Addr) (n : Int) : List (Str × V) := [("by_name", .ref d1), ("by_number", .ref d2), ("many", .int n)]
structure PplAt (K : PySem.W.Frag) (H : Hp) (p d1 d2 : Addr) (S : Ppl) : Prop where
  ob : ∃ dx, H p = some (.ins (He.ga K "People") dx (fPpl d1 d2 S.many))
  h1 : H d1 = some (.dK (nmD S.nm))
  h2 : H d2 = some (.dK (nuD S.nu))
  ne : d1 ≠ d2
  l1 : S.nm.length ≤ 1000
  l2 : S.nu.length ≤ 1000
  lt : ∀ q ∈ S.nu, q.1 ≤ S.many
def Ppl.look (S : Ppl) (x : Str) : Option Int := S.nm.lookup x
def Ppl.name (S : Ppl) (n : Int) : Option Str := S.nu.lookup n
/-- a name comes -/
def Ppl.come (S : Ppl) (x : Str) : Ppl := match S.look x with
  | some _ => S
  | none => ⟨S.nm ++ [(x, (S.many : Int) + 1)], S.nu ++ [((S.many : Int) + 1, x)], S.many + 1⟩
def Ppl.num (S : Ppl) (x : Str) : Int := match S.look x with
  | some n => n
  | none => (S.many : Int) + 1

def sp_People___init__ (K : PySem.W.Frag) : Sp := fun vs H Q _ => match vs with
  | [.ref p] => ∃ dx, H p = some (.ins (He.ga K "People") dx []) ∧ ∀ d1 d2 H', PplAt K H' p d1 d2 ⟨[], [], 0⟩ → H d1 = none → H d2 = none → Keep [p] H H' → Q .non H'
  | _ => False
def sp_People_known (K : PySem.W.Frag) : Sp := fun vs H Q _ => match vs with
  | [.ref p, v] => ∃ d1 d2 S, PplAt K H p d1 d2 S ∧ Kn K H v ∧ (isNm v = false → ∀ H', Same H H' → Q .non H') ∧ (∀ x, v = .str x → isNm v = true → ∀ H', Same H H' → Q (((S.look x).map V.int).getD .non) H')
  | _ => False
def sp_People_number_of (K : PySem.W.Frag) : Sp := fun vs H Q E => match vs with
  | [.ref p, v] => ∃ d1 d2 S, PplAt K H p d1 d2 S ∧ S.nm.length < 1000 ∧ S.nu.length < 1000 ∧ Kn K H v ∧ (isNm v = false → ∀ H', Same H H' → E (.ref (He.ga K "NoName")) none H') ∧
    (∀ x, v = .str x → isNm v = true → ∀ H', PplAt K H' p d1 d2 (S.come x) → Keep [p, d1, d2] H H' → Q (.int (S.num x)) H')
  | _ => False
def sp_People_cut_off (K : PySem.W.Frag) : Sp := fun vs H Q E => match vs with
  | [.ref p, v] => ∃ d1 d2 S, PplAt K H p d1 d2 S ∧ Kn K H v ∧ (isNm v = false → ∀ H', Same H H' → E (.ref (He.ga K "NoPerson")) none H') ∧
    (∀ x, v = .str x → isNm v = true → S.look x = none → ∀ H', Same H H' → E (.ref (He.ga K "NoPerson")) none H') ∧
    (∀ x n, v = .str x → isNm v = true → S.look x = some n → ∀ H', PplAt K H' p d1 d2 ⟨S.nm.filter (fun q => decide (q.1 ≠ x)), S.nu, S.many⟩ → Keep [d1] H H' → Q (.int n) H')
  | _ => False
def sp_People_name_of (K : PySem.W.Frag) : Sp := fun vs H Q _ => match vs with
  | [.ref p, .int n] => ∃ d1 d2 S, PplAt K H p d1 d2 S ∧ Q (((S.name n).map V.str).getD .non) H
  | _ => False
def sp_People_numbers (K : PySem.W.Frag) : Sp := fun vs H Q _ => match vs with
  | [.ref p] => ∃ d1 d2 S, PplAt K H p d1 d2 S ∧ S.nu.length < 64 ∧ ∀ (ys : List Int) H' a, ys.Perm (S.nu.map (·.1)) → ys.Pairwise (· ≤ ·) → H a = none → Same H H' → H' a = some (.lst (ys.map V.int)) → Q (.ref a) H'
  | _ => False
end G

set_option Elab.async false
set_option linter.all false
set_option maxRecDepth 100000
set_option maxHeartbeats 4000000

/-! Readings, printed by gen.py. -/
namespace G
open PySem PySem.Spec PyProof.Rows L2 U
abbrev N_is_name : List Str := ["thing", "letter"]
def t_is_name (K : PySem.W.Frag) : TS :=
  (tSeq (tIfS (tOr (tNot (tB (tCB (rIsi K) (tCons (tVar 0) (tCons (tC (.ty "str")) tNil))))) (tOr (tTest (tOp rEq (tVar 0) (tC (.str "")))) (tTest (tOp rGtI (tCB rLenStr (tCons (tVar 0) tNil)) (tC (.int 8)))))) (tRet (tC (.bl false))) tNext)
  (tRet (tCB (rAll K) (tCons (tLc (iStr (tVar 0)) (gName 1) tYes (tOp rInSg (tVar 1) (tC (.str "abcdefghijklmnopqrstuvwxyz"))) [1]) tNil))))
abbrev N_People_known : List Str := ["self", "name"]
def t_People_known (K : PySem.W.Frag) : TS :=
  (tSeq (tIfS (tNot (tB (tCl (sp_is_name K) [] ES0 (tCons (tVar 1) tNil)))) (tRet (tC .non)) tNext)
  (tRet (tDGet1 (tFd (He.ga K "People") (tVar 0) "by_name") (tVar 1))))
abbrev N_People_name_of : List Str := ["self", "number"]
def t_People_name_of (K : PySem.W.Frag) : TS :=
  (tRet (tDGet1 (tFd (He.ga K "People") (tVar 0) "by_number") (tVar 1)))
abbrev N_People_number_of : List Str := ["self", "name"]
def t_People_number_of (K : PySem.W.Frag) (W : WX) : TS :=
  (tSeq (tIfS (tNot (tB (tCl (sp_is_name K) [] ES0 (tCons (tVar 1) tNil)))) (tRs (He.ga K "NoName") W) tNext)
  (tSeq (tIfS (tB (tDNotIn (tVar 1) (tFd (He.ga K "People") (tVar 0) "by_name"))) (tSeq (sFdAdd (He.ga K "People") (tVar 0) (tC (.int 1)) "many")
  (tSeq (sDPut (tFd (He.ga K "People") (tVar 0) "by_name") (tVar 1) (tFd (He.ga K "People") (tVar 0) "many"))
  (sDPut (tFd (He.ga K "People") (tVar 0) "by_number") (tFd (He.ga K "People") (tVar 0) "many") (tVar 1)))) tNext)
  (tRet (tDGet (tFd (He.ga K "People") (tVar 0) "by_name") (tVar 1)))))
abbrev N_People_numbers : List Str := ["self"]
def t_People_numbers (K : PySem.W.Frag) : TS :=
  (tRet (tCB rSortedKV (tCons (tKeysV (tFd (He.ga K "People") (tVar 0) "by_number")) tNil)))
abbrev N_People___init__ : List Str := ["self"]
def t_People___init__ (K : PySem.W.Frag) : TS :=
  (tSeq (sFd (He.ga K "People") (tVar 0) tDNewK "by_name")
  (tSeq (sFd (He.ga K "People") (tVar 0) tDNewK "by_number")
  (sFd (He.ga K "People") (tVar 0) (tC (.int 0)) "many")))
abbrev N_People_cut_off : List Str := ["self", "name", "number"]
def t_People_cut_off (K : PySem.W.Frag) (W : WX) : TS :=
  (tSeq (tAsg (tMt (He.ga K "People") "known" (sp_People_known K) [] ES0 (tVar 0) (tCons (tVar 1) tNil)) (gName 2))
  (tSeq (tIfS (tTest (tOp rIsNn (tVar 2) (tC .non))) (tRs (He.ga K "NoPerson") W) tNext)
  (tSeq (tDrop (tDPop1 (tFd (He.ga K "People") (tVar 0) "by_name") (tVar 1)))
  (tRet (tVar 2)))))
end G

set_option Elab.async false
set_option linter.all false
set_option maxRecDepth 100000
set_option maxHeartbeats 4000000
/-! The readings of is_name and of People keep their promises. -/
namespace G
open PySem PySem.Spec PyProof.Rows L2 U
variable {K : PySem.W.Frag}

theorem pure_is_name (vs : List V) (H : Hp) (Q : VK) (E : XK) (h : sp_is_name K vs H Q E) : t_is_name K { nx := fun _ H' => Q .non H', rt := Q } (start N_is_name vs) H := by
  unfold sp_is_name at h
  split at h
  · rename_i v
    obtain ⟨kn, k⟩ := h
    obtain ⟨T, ty, kt⟩ := kn.isS K
    refine ⟨v, rfl, v, _, _, _, _, rfl, .ty "str", ty, kt, _, rfl, ?_⟩
    cases hs : isStrV v
    rotate_left
    · obtain ⟨z, rfl⟩ := isStrV_str hs
      refine iteF ?_
      refine ⟨_, rfl, rfl, _, rfl, ?_⟩
      by_cases h0 : z = ""
      · subst h0
        refine iteT (iteT ?_)
        exact k H (Same.refl H)
      · have e0 : decide (V.str z = V.str "") = false := decide_eq_false (fun e => h0 (V.str.inj e))
        rw [e0]
        refine iteF ?_
        refine ⟨_, rfl, z, rfl, Nat.le_trans kn.tx.len (by decide), _, _, rfl, rfl, _, rfl, ?_⟩
        have hz : z.length ≠ 0 := fun e => h0 (by
          obtain ⟨a⟩ := z
          have e1 : a.size = 0 := e
          have e2 : a = #[] := Array.eq_empty_of_size_eq_zero e1
          rw [e2]
          rfl)
        by_cases h8 : (8 : Int) < z.length
        · refine ite2 (fun _ => ?_) (fun n => absurd (decide_eq_true h8) n)
          have e1 : isNm (V.str z) = false := by
            show isNmS z = false
            unfold isNmS
            rw [decide_eq_false (show ¬ z.length ≤ 8 by omega)]
            simp
          have e2 := k H (Same.refl H)
          rw [e1] at e2
          exact e2
        · refine ite2 (fun n => absurd (of_decide_eq_true n) h8) (fun _ => ?_)
          refine ⟨_, rfl, z, rfl, fun D hD => ?_⟩
          refine lcs_m (fun c => V.bl (decide (c ∈ abc.cps.toList))) (show z.length ≤ 1000000 from Nat.le_trans kn.tx.len (by decide)) (fun c acc R _ r => ?_) ?_
          · exact ⟨_, rfl, c, _, rfl, rfl, r⟩
          · refine ⟨D, z.cps.toList.map (fun c => decide (c ∈ abc.cps.toList)), rfl, ?_, ?_⟩
            · refine SqL.of ?_
              rw [upd_same, List.map_map]
              rfl
            · have e2 := k (upd H D (.lst (List.map (fun c => V.bl (decide (c ∈ abc.cps.toList))) z.cps.toList))) (same_new hD)
              have e1 : isNm (V.str z) = (z.cps.toList.map (fun c => decide (c ∈ abc.cps.toList))).all id := by
                show isNmS z = _
                unfold isNmS
                rw [decide_eq_true (show 1 ≤ z.length by omega), decide_eq_true (show z.length ≤ 8 by omega)]
                simp [List.all_map, Function.comp_def]
              rw [e1] at e2
              exact e2
    · refine iteT (iteT ?_)
      have e1 : isNm v = false := isNm_notStr hs
      have e2 := k H (Same.refl H)
      rw [e1] at e2
      exact e2
  · exact h.elim

/-! ### fields -/
theorem fP_name {d1 d2 : Addr} {n : Int} : List.lookup ("by_name" : Str) (fPpl d1 d2 n) = some (V.ref d1) := by rfl
theorem fP_number {d1 d2 : Addr} {n : Int} : List.lookup ("by_number" : Str) (fPpl d1 d2 n) = some (V.ref d2) := by rfl
theorem fP_many {d1 d2 : Addr} {n : Int} : List.lookup ("many" : Str) (fPpl d1 d2 n) = some (V.int n) := by rfl
theorem fP_put {d1 d2 : Addr} {n m : Int} : putF "many" (.int m) (fPpl d1 d2 n) = fPpl d1 d2 m := by rfl

/-! ### the dicts -/
theorem nmD_val : ∀ (l : List (Str × Int)) (x : Str), valV (nmD l) (Sum.inr x) = (l.lookup x).map V.int
  | [], x => rfl
  | (y, n) :: r, x => by
    show ((((Sum.inr y : Key), V.int n) :: nmD r).find? fun kv => decide (kv.1 = Sum.inr x)).map (·.2) = _
    rw [List.find?_cons, List.lookup_cons]
    by_cases e : y = x
    · subst e
      simp
    · have e1 : decide ((Sum.inr y : Key) = Sum.inr x) = false := decide_eq_false (fun z => e (Sum.inr.inj z))
      have e2 : (x == y) = false := beq_eq_false_iff_ne.mpr (fun z => e z.symm)
      simp only [e1, e2]
      exact nmD_val r x
theorem nuD_val : ∀ (l : List (Int × Str)) (x : Int), valV (nuD l) (Sum.inl x) = (l.lookup x).map V.str
  | [], x => rfl
  | (y, n) :: r, x => by
    show ((((Sum.inl y : Key), V.str n) :: nuD r).find? fun kv => decide (kv.1 = Sum.inl x)).map (·.2) = _
    rw [List.find?_cons, List.lookup_cons]
    by_cases e : y = x
    · subst e
      simp
    · have e1 : decide ((Sum.inl y : Key) = Sum.inl x) = false := decide_eq_false (fun z => e (Sum.inl.inj z))
      have e2 : (x == y) = false := beq_eq_false_iff_ne.mpr (fun z => e z.symm)
      simp only [e1, e2]
      exact nuD_val r x
theorem nmD_len (l : List (Str × Int)) : (nmD l).length = l.length := List.length_map _
theorem nuD_len (l : List (Int × Str)) : (nuD l).length = l.length := List.length_map _

theorem pure_People_known (vs : List V) (H : Hp) (Q : VK) (E : XK) (h : sp_People_known K vs H Q E) : t_People_known K { nx := fun _ H' => Q .non H', rt := Q } (start N_People_known vs) H := by
  unfold sp_People_known at h
  split at h
  · rename_i p v
    obtain ⟨d1, d2, S, P, kn, k1, k2⟩ := h
    obtain ⟨dx, hp⟩ := P.ob
    refine ⟨v, rfl, kn, fun H1 s1 => ⟨_, rfl, ?_⟩⟩
    cases hn : isNm v
    · exact iteT (k1 hn H1 s1)
    · obtain ⟨x, rfl⟩ := isNm_str hn
      refine iteF ?_
      refine ⟨_, rfl, p, dx, _, _, rfl, s1 _ _ hp, fP_name, d1, rfl, .inl ⟨_, .inl (s1 _ _ P.h1)⟩, _, rfl, _, DGet.k (k := Sum.inr x) (s1 _ _ P.h1), ?_⟩
      rw [nmD_val]
      exact k2 x rfl hn H1 s1
  · exact h.elim

theorem lookup_none_lt {l : List (Int × Str)} {m : Nat} (h : ∀ q ∈ l, q.1 ≤ (m : Int)) : l.lookup ((m : Int) + 1) = none := by
  induction l with
  | nil => rfl
  | cons q r ih =>
    rw [List.lookup_cons]
    have h1 := h q (List.mem_cons_self ..)
    have e : (((m : Int) + 1) == q.1) = false := beq_eq_false_iff_ne.mpr (by omega)
    rw [e]
    exact ih fun z hz => h z (List.mem_cons_of_mem _ hz)
theorem nm_put {l : List (Str × Int)} {x : Str} {n : Int} (h : l.lookup x = none) : putK (nmD l) (Sum.inr x) (V.int n) = nmD (l ++ [(x, n)]) := by
  rw [putK_new _ (by rw [nmD_val, h]; rfl)]
  unfold nmD
  rw [List.map_append]
  rfl
theorem nu_put {l : List (Int × Str)} {x : Str} {n : Int} (h : l.lookup n = none) : putK (nuD l) (Sum.inl n) (V.str x) = nuD (l ++ [(n, x)]) := by
  rw [putK_new _ (by rw [nuD_val, h]; rfl)]
  unfold nuD
  rw [List.map_append]
  rfl
theorem nm_drop (l : List (Str × Int)) (x : Str) : dropK (nmD l) (Sum.inr x) = nmD (l.filter fun q => decide (q.1 ≠ x)) := by
  unfold dropK nmD
  rw [List.filter_map]
  congr 1
  refine List.filter_congr fun q _ => ?_
  by_cases e : q.1 = x
  · simp [e]
  · simp [e]

theorem pure_People_number_of (vs : List V) (H : Hp) (Q : VK) (E : XK) (h : sp_People_number_of K vs H Q E) : t_People_number_of K (fun cls d _ H => E cls d H) { nx := fun _ H' => Q .non H', rt := Q } (start N_People_number_of vs) H := by
  unfold sp_People_number_of at h
  split at h
  · rename_i p v
    obtain ⟨d1, d2, S, P, l1, l2, kn, k1, k2⟩ := h
    obtain ⟨dx, hp⟩ := P.ob
    refine ⟨v, rfl, kn, fun H1 s1 => ⟨_, rfl, ?_⟩⟩
    cases hn : isNm v
    · exact iteT (k1 hn H1 s1)
    · obtain ⟨x, rfl⟩ := isNm_str hn
      refine iteF ?_
      have hp1 := s1 _ _ hp
      have a1 := s1 _ _ P.h1
      have a2 := s1 _ _ P.h2
      have np1 : p ≠ d1 := ne_of hp1 a1 (by intro q; cases q)
      have np2 : p ≠ d2 := ne_of hp1 a2 (by intro q; cases q)
      refine ⟨_, rfl, _, rfl, p, dx, _, _, rfl, hp1, fP_name, d1, _, rfl, DGet.k (k := Sum.inr x) a1, _, rfl, ?_⟩
      rw [nmD_val]
      have k3 := k2 x rfl hn
      unfold Ppl.come Ppl.num Ppl.look at k3
      cases hl : S.nm.lookup x with
      | some n =>
        rw [hl] at k3
        refine iteF ?_
        refine ⟨_, rfl, p, dx, _, _, rfl, hp1, fP_name, _, rfl, d1, V.int n, rfl, .inl ⟨_, Sum.inr x, .inl a1, rfl, by rw [nmD_val, hl]; rfl⟩, ?_⟩
        exact k3 H1 ⟨⟨dx, hp1⟩, a1, a2, P.ne, P.l1, P.l2, P.lt⟩ (.same s1)
      | none =>
        rw [hl] at k3
        refine iteT ?_
        refine ⟨_, rfl, p, dx, _, _, rfl, hp1, fP_many, _, dx, _, rfl, hp1, (by show 3 < 1000; decide), ?_⟩
        rw [fP_put]
        refine ⟨_, rfl, p, dx, _, _, rfl, upd_same, fP_many, _, rfl, p, dx, _, _, rfl, upd_same, fP_name, _, rfl, d1, _, rfl, DPut.k (k := Sum.inr x) (by rw [upd_ne np1.symm]; exact a1) (by rw [nmD_len, sizeLine_eq]; omega), ?_⟩
        rw [nm_put hl]
        refine ⟨_, rfl, _, rfl, p, dx, _, _, rfl, by rw [upd_ne np1, upd_same], fP_number, _, rfl, p, dx, _, _, rfl, by rw [upd_ne np1, upd_same], fP_many, d2, _, rfl,
          DPut.k (k := Sum.inl ((S.many : Int) + 1)) (by rw [upd_ne P.ne.symm, upd_ne np2.symm]; exact a2) (by rw [nuD_len, sizeLine_eq]; omega), ?_⟩
        rw [nu_put (lookup_none_lt P.lt)]
        refine ⟨_, rfl, p, dx, _, _, rfl, by rw [upd_ne np2, upd_ne np1, upd_same], fP_name, _, rfl, d1, V.int ((S.many : Int) + 1), rfl, .inl ⟨_, Sum.inr x, .inl (by rw [upd_ne P.ne, upd_same]), rfl, ?_⟩, ?_⟩
        · rw [nmD_val, List.lookup_append, hl]
          simp
        · refine k3 _ ⟨⟨dx, by rw [upd_ne np2, upd_ne np1, upd_same]; rfl⟩, by rw [upd_ne P.ne, upd_same], upd_same, P.ne, ?_, ?_, ?_⟩ ?_
          · show (S.nm ++ [(x, (S.many : Int) + 1)]).length ≤ 1000
            rw [List.length_append, List.length_singleton]
            omega
          · show (S.nu ++ [((S.many : Int) + 1, x)]).length ≤ 1000
            rw [List.length_append, List.length_singleton]
            omega
          · intro q hq
            rcases List.mem_append.mp hq with hq | hq
            · have := P.lt q hq
              show q.1 ≤ ((S.many + 1 : Nat) : Int)
              omega
            · rw [List.mem_singleton.mp hq]
              show (S.many : Int) + 1 ≤ ((S.many + 1 : Nat) : Int)
              omega
          · exact (((Keep.same s1).put (by simp)).put (by simp)).put (by simp)
  · exact h.elim

theorem pure_People_cut_off (vs : List V) (H : Hp) (Q : VK) (E : XK) (h : sp_People_cut_off K vs H Q E) : t_People_cut_off K (fun cls d _ H => E cls d H) { nx := fun _ H' => Q .non H', rt := Q } (start N_People_cut_off vs) H := by
  unfold sp_People_cut_off at h
  split at h
  · rename_i p v
    obtain ⟨d1, d2, S, P, kn, k1, k2, k3⟩ := h
    obtain ⟨dx, hp⟩ := P.ob
    refine ⟨_, rfl, p, dx, _, rfl, hp, (by rfl), _, rfl, d1, d2, S, P, kn, fun hn H1 s1 => ?_, fun x e hn H1 s1 => ?_⟩
    · exact ⟨_, rfl, rfl, _, rfl, iteT (k1 hn H1 s1)⟩
    · subst e
      cases hl : S.look x with
      | none => exact ⟨_, rfl, rfl, _, rfl, iteT (k2 x rfl hn hl H1 s1)⟩
      | some n =>
        refine ⟨_, rfl, rfl, _, rfl, iteF ?_⟩
        have hp1 := s1 _ _ hp
        have a1 := s1 _ _ P.h1
        have a2 := s1 _ _ P.h2
        refine ⟨_, rfl, p, dx, _, _, rfl, hp1, fP_name, d1, rfl, .inl ⟨_, .inl a1⟩, _, rfl, _, Sum.inr x, V.int n, a1, rfl, by rw [nmD_val]; show (S.look x).map V.int = _; rw [hl]; rfl, ?_⟩
        rw [nm_drop]
        refine ⟨_, rfl, k3 x n rfl hn hl _ ⟨⟨dx, ?_⟩, upd_same, ?_, P.ne, ?_, P.l2, P.lt⟩ ((Keep.same s1).put (by simp))⟩
        · rw [upd_ne (ne_of hp1 a1 (by intro q; cases q))]
          exact hp1
        · rw [upd_ne P.ne.symm]
          exact a2
        · exact Nat.le_trans (List.length_filter_le _ _) P.l1
  · exact h.elim

theorem pure_People_name_of (vs : List V) (H : Hp) (Q : VK) (E : XK) (h : sp_People_name_of K vs H Q E) : t_People_name_of K { nx := fun _ H' => Q .non H', rt := Q } (start N_People_name_of vs) H := by
  unfold sp_People_name_of at h
  split at h
  · rename_i p n
    obtain ⟨d1, d2, S, P, k⟩ := h
    obtain ⟨dx, hp⟩ := P.ob
    refine ⟨_, rfl, p, dx, _, _, rfl, hp, fP_number, d2, rfl, .inl ⟨_, .inl P.h2⟩, _, rfl, _, DGet.k (k := Sum.inl n) P.h2, ?_⟩
    rw [nuD_val]
    exact k
  · exact h.elim

theorem pure_People_numbers (vs : List V) (H : Hp) (Q : VK) (E : XK) (h : sp_People_numbers K vs H Q E) : t_People_numbers K { nx := fun _ H' => Q .non H', rt := Q } (start N_People_numbers vs) H := by
  unfold sp_People_numbers at h
  split at h
  · rename_i p
    obtain ⟨d1, d2, S, P, l, k⟩ := h
    obtain ⟨dx, hp⟩ := P.ob
    refine ⟨_, rfl, p, dx, _, _, rfl, hp, fP_number, d2, _, rfl, .inl P.h2, fun q hq => ?_⟩
    refine ⟨q, d2, _, S.nu.map (·.1), rfl, upd_same, .inl (by rw [upd_ne (ne_of_none P.h2 hq)]; exact P.h2), ?_, by rw [List.length_map]; exact l, fun ys a py sy ha => ?_⟩
    · unfold nuD
      rw [List.map_map, List.map_map]
      rfl
    · have ha0 : H a = none := (same_new hq).free ha
      exact k ys _ a py sy ha0 (U.Same.new (same_new hq) ha) upd_same
  · exact h.elim

theorem pure_People___init__ (vs : List V) (H : Hp) (Q : VK) (E : XK) (h : sp_People___init__ K vs H Q E) : t_People___init__ K { nx := fun _ H' => Q .non H', rt := Q } (start N_People___init__ vs) H := by
  unfold sp_People___init__ at h
  split at h
  · rename_i p
    obtain ⟨dx, hp, k⟩ := h
    intro d1 n1
    have np1 : p ≠ d1 := ne_of_none hp n1
    refine ⟨_, rfl, p, dx, _, rfl, by rw [upd_ne np1]; exact hp, (by show 0 < 1000; decide), ?_⟩
    intro d2 n2
    have nd : d1 ≠ d2 := fun e => by
      rw [← e, upd_ne np1.symm, upd_same] at n2
      cases n2
    have np2 : p ≠ d2 := fun e => by
      rw [← e, upd_same] at n2
      cases n2
    refine ⟨_, rfl, p, dx, _, rfl, by rw [upd_ne np2, upd_same], (by show 1 < 1000; decide), _, rfl, p, dx, _, rfl, upd_same, (by show 2 < 1000; decide), ?_⟩
    refine k d1 d2 _ ⟨⟨dx, by rw [upd_same]; rfl⟩, ?_, ?_, nd, Nat.zero_le _, Nat.zero_le _, fun q hq => by cases hq⟩ n1 ?_ ?_
    · rw [upd_ne np1.symm, upd_ne np1.symm, upd_ne nd, upd_ne np1.symm, upd_same]
      rfl
    · rw [upd_ne np2.symm, upd_ne np2.symm, upd_same]
      rfl
    · rw [upd_ne np2.symm, upd_ne nd.symm] at n2
      exact n2
    · have n20 : H d2 = none := by
        rw [upd_ne np2.symm, upd_ne nd.symm] at n2
        exact n2
      exact ((((Keep.refl.new n1).put (by simp)).new n20).put (by simp)).put (by simp)
  · exact h.elim
end G

set_option Elab.async false
set_option linter.all false
set_option maxRecDepth 100000
set_option maxHeartbeats 4000000
/-! Promises of what most laws have: pots and draws. -/
namespace G
open PySem PySem.Spec PyProof.Rows L2 U
/-- a pot stands at p -/
def PotAt (H : Hp) (p : Addr) : Prop := ∃ a b : Int, H p = some (.lst [.int a, .int b]) ∧ 0 ≤ a ∧ 0 ≤ b ∧ b < 2147483648
theorem PotAt.keep {l : List Addr} {H H' : Hp} {p : Addr} (h : PotAt H p) (k : Keep l H H') (n : p ∉ l) : PotAt H' p := by
  obtain ⟨a, b, e, r⟩ := h
  exact ⟨a, b, k.k _ _ e n, r⟩
def sp__law_draw (K : PySem.W.Frag) : Sp := fun vs H Q _ => match vs with
  | [.ref p, .int n] => PotAt H p ∧ 0 < n ∧ n ≤ 1000000000000000000000000000000000000000000000000000000000000 ∧ ∀ d H', 0 ≤ d → d < n → PotAt H' p → Keep [p] H H' → Q (.int d) H'
  | _ => False
/-- a word of one to eight letters -/
def isWd (z : Str) : Prop := 1 ≤ z.length ∧ z.length ≤ 8 ∧ ∀ c ∈ z.cps.toList, c ∈ abc.cps.toList
def sp__law_pot (K : PySem.W.Frag) : Sp := fun vs H Q _ => match vs with
  | [.int c] => ∀ p H', H p = none → PotAt H' p → Same H H' → Q (.ref p) H'
  | _ => False
def sp__law_word (K : PySem.W.Frag) : Sp := fun vs H Q _ => match vs with
  | [.ref p] => PotAt H p ∧ ∀ z H', isWd z → PotAt H' p → Keep [p] H H' → Q (.str z) H'
  | _ => False
def sp__law_is_name (K : PySem.W.Frag) : Sp := fun vs H Q _ => match vs with
  | [v] => Kn K H v ∧ ∀ H', Same H H' → Q (.bl (isNm v)) H'
  | _ => False
end G

set_option Elab.async false
set_option linter.all false
set_option maxRecDepth 100000
set_option maxHeartbeats 4000000

/-! Readings, printed by gen.py. -/
namespace G
open PySem PySem.Spec PyProof.Rows L2 U
abbrev N__law_is_name : List Str := ["_law_thing_here", "_law_sign"]
def t__law_is_name (K : PySem.W.Frag) : TS :=
  (tSeq (tIfS (tOr (tNot (tB (tCB (rIsi K) (tCons (tVar 0) (tCons (tC (.ty "str")) tNil))))) (tOr (tTest (tOp rLtI (tCB rLenStr (tCons (tVar 0) tNil)) (tC (.int 1)))) (tTest (tOp rGtI (tCB rLenStr (tCons (tVar 0) tNil)) (tC (.int 8)))))) (tRet (tC (.bl false))) tNext)
  (tRet (tOp (rEqD K) (tLc (iStr (tVar 0)) (gName 1) (tTest (tOp rNiSg (tVar 1) (tC (.str "abcdefghijklmnopqrstuvwxyz")))) (tVar 1) [1]) (tLst tNil))))
abbrev N__law_pot : List Str := ["_law_cell_here"]
def t__law_pot (K : PySem.W.Frag) : TS :=
  (tRet (tLst (tCons (tCB rMax2 (tCons (tC (.int 0)) (tCons (tOp rSubI (tCB rAbs (tCons (tVar 0) tNil)) (tOp rPowI (tC (.int 10)) (tC (.int 18)))) tNil))) (tCons (tOp rAddI (tOp rModI (tCB rAbs (tCons (tVar 0) tNil)) (tC (.int 2147483629))) (tC (.int 1))) tNil))))
abbrev N__law_draw : List Str := ["_law_pot_here", "_law_many", "_law_digit"]
def t__law_draw (K : PySem.W.Frag) : TS :=
  (tSeq (tIfS (tTest (tOp rGtI (tOp (rIxL K) (tVar 0) (tC (.int 0))) (tC (.int 0)))) (tSeq (tAsg (tCB rDivmod (tCons (tOp (rIxL K) (tVar 0) (tC (.int 0))) (tCons (tVar 1) tNil))) (gTup K 2 (gCons (gSub (tVar 0) (tC (.int 0)) rSetL) (gCons (gName 2) gNil))))
  (tRet (tVar 2))) tNext)
  (tSeq (tAsg (tOp rModI (tOp rAddI (tOp rMulI (tOp (rIxL K) (tVar 0) (tC (.int 1))) (tC (.int 48271))) (tC (.int 11))) (tC (.int 2147483647))) (gSub (tVar 0) (tC (.int 1)) rSetL))
  (tRet (tOp rModI (tOp rFdivI (tOp rModI (tOp rMulI (tOp (rIxL K) (tVar 0) (tC (.int 1))) (tOp (rIxL K) (tVar 0) (tC (.int 1)))) (tC (.int 2147483629))) (tC (.int 3))) (tVar 1)))))
abbrev N__law_word : List Str := ["_law_pot_here", "_law_k"]
def t__law_word (K : PySem.W.Frag) : TS :=
  (tRet (tM1 (mJoin K) (tC (.str "")) (tLc (iRng1 (tCons (tOp rAddI (tC (.int 1)) (tCl (sp__law_draw K) [] ES0 (tCons (tVar 0) (tCons (tC (.int 8)) tNil)))) tNil)) (gName 1) tYes (tOp rIxS (tC (.str "abcdefghijklmnopqrstuvwxyz")) (tCl (sp__law_draw K) [] ES0 (tCons (tVar 0) (tCons (tC (.int 26)) tNil)))) [1])))
end G

set_option Elab.async false
set_option linter.all false
set_option maxRecDepth 100000
set_option maxHeartbeats 4000000
namespace G
open PySem PySem.Spec PyProof.Rows L2 U
variable {K : PySem.W.Frag}

theorem pure__law_pot (vs : List V) (H : Hp) (Q : VK) (E : XK) (h : sp__law_pot K vs H Q E) : t__law_pot K { nx := fun _ H' => Q .non H', rt := Q } (start N__law_pot vs) H := by
  unfold sp__law_pot at h
  split at h
  · rename_i c
    refine ⟨_, rfl, c, rfl, _, _, rfl, rfl, ⟨by decide, by decide, by decide⟩, _, _, rfl, rfl, _, _, rfl, _, rfl, c, rfl, _, _, rfl, rfl, (by show (0 : Int) < 2147483629; decide), _, _, rfl, rfl, (by show 2 ≤ sizeLine; decide), fun p hp => ?_⟩
    refine h p _ hp ⟨_, _, upd_same, ?_, ?_, ?_⟩ (same_new hp)
    · split <;> omega
    · have := Int.emod_nonneg (if c < 0 then -c else c) (show (2147483629 : Int) ≠ 0 by decide)
      omega
    · have := Int.emod_lt_of_pos (if c < 0 then -c else c) (show (0 : Int) < 2147483629 by decide)
      omega
  · exact h.elim

theorem pure__law_draw (vs : List V) (H : Hp) (Q : VK) (E : XK) (h : sp__law_draw K vs H Q E) : t__law_draw K { nx := fun _ H' => Q .non H', rt := Q } (start N__law_draw vs) H := by
  unfold sp__law_draw at h
  split at h
  · rename_i p n
    obtain ⟨⟨a, b, hp, ha, hb, hb2⟩, hn, hn2, k⟩ := h
    have at0 : ∀ x y : Int, atI [V.int x, V.int y] 0 = some (V.int x) := fun x y => rfl
    have at1 : ∀ x y : Int, atI [V.int x, V.int y] 1 = some (V.int y) := fun x y => rfl
    refine ⟨_, rfl, p, _, _, _, rfl, rfl, SqL.of hp, at0 a b, _, _, rfl, rfl, _, rfl, ?_⟩
    by_cases h0 : 0 < a
    · refine ite2 (fun _ => ?_) (fun z => absurd (decide_eq_true h0) z)
      refine ⟨_, rfl, p, _, _, _, rfl, rfl, SqL.of hp, at0 a b, _, rfl, _, _, rfl, cdp hn hn2, fun t ht => ?_⟩
      have npt : p ≠ t := ne_of_none hp ht
      refine ⟨t, _, rfl, .inl (.inl upd_same), rfl, _, _, rfl, _, rfl, p, _, _, 0, rfl, rfl, by rw [upd_ne npt]; exact hp, rfl, _, _, rfl, rfl, _, rfl, ?_⟩
      refine k _ _ (Int.emod_nonneg a (by omega)) (Int.emod_lt_of_pos a hn) ⟨_, _, upd_same, Int.ediv_nonneg ha (by omega), hb, hb2⟩ ?_
      exact (Keep.refl.new ht).put (by simp)
    · refine ite2 (fun z => absurd (of_decide_eq_true z) h0) (fun _ => ?_)
      refine ⟨_, rfl, p, _, _, _, rfl, rfl, SqL.of hp, at1 a b, _, _, rfl, rfl, .inr ⟨by decide, by decide⟩, _, _, rfl, rfl, _, _, rfl, rfl, (by show (0 : Int) < 2147483647; decide), _, rfl, p, _, _, 1, rfl, rfl, hp, rfl, ?_⟩
      have m1 := Int.emod_nonneg (b * 48271 + 11) (show (2147483647 : Int) ≠ 0 by decide)
      have m2 := Int.emod_lt_of_pos (b * 48271 + 11) (show (0 : Int) < 2147483647 by decide)
      have hp' : upd H p (.lst ([V.int a, V.int b].set 1 (V.int ((b * 48271 + 11) % 2147483647)))) p = some (.lst [V.int a, V.int ((b * 48271 + 11) % 2147483647)]) := upd_same
      refine ⟨_, rfl, p, _, _, _, rfl, rfl, SqL.of hp', at1 a _, _, rfl, p, _, _, _, rfl, rfl, SqL.of hp', at1 a _, _, _, rfl, rfl, .inl ⟨by omega, by omega⟩, _, _, rfl, rfl, (by show (0 : Int) < 2147483629; decide), _, _, rfl, rfl, cdw (by decide) (by decide), _, rfl, _, _, rfl, rfl, hn, ?_⟩
      exact k _ _ (Int.emod_nonneg _ (by omega)) (Int.emod_lt_of_pos _ hn) ⟨_, _, hp', ha, m1, by omega⟩ (Keep.refl.put (by simp))
  · exact h.elim

theorem pure__law_word (vs : List V) (H : Hp) (Q : VK) (E : XK) (h : sp__law_word K vs H Q E) : t__law_word K { nx := fun _ H' => Q .non H', rt := Q } (start N__law_word vs) H := by
  unfold sp__law_word at h
  split at h
  · rename_i p
    obtain ⟨hP, k⟩ := h
    refine ⟨⟨_, rfl⟩, _, rfl, hP, by decide, by decide, fun n H1 n0 n8 P1 k1 => ?_⟩
    refine ⟨_, _, rfl, rfl, _, rfl, by omega, by omega, fun D hD => ?_⟩
    have pd : p ≠ D := by
      obtain ⟨a, b, e, _⟩ := P1
      exact ne_of_none e hD
    have hD0 : H D = none := k1.free (by simp [pd.symm]) hD
    have hPD : PotAt (upd H1 D (.lst [])) p := P1.keep (l := []) (.same (same_new hD)) (by simp)
    refine lc_range (g := gName 1) (vs := [1]) (lo := 0) (n := (1 + n).toNat) (fun i H' => PotAt H' p ∧ Keep [p] H H' ∧ ∃ cs : List Nat, cs.length = i ∧ (∀ c ∈ cs, c ∈ abc.cps.toList) ∧ H' D = some (.lst (cs.map fun c => V.str ⟨#[c]⟩))) ⟨hPD, k1.new hD0, [], rfl, by simp, upd_same⟩ (fun i H2 hi ⟨P2, k2, cs, hl, hc, hd⟩ => ?_) (fun H2 ⟨P2, k2, cs, hl, hc, hd⟩ => ?_)
    · refine ⟨wipe1, _, rfl, P2, by decide, by decide, fun d H3 d0 d26 P3 k3 => ?_⟩
      obtain ⟨c, hat, hmem⟩ := abc_at d0 d26
      have hd3 := k3.k _ _ hd (by simp [pd.symm])
      refine ⟨_, _, c, rfl, rfl, by rw [abc_size]; decide, hat, _, hd3, by rw [List.length_map, sizeLine_eq]; omega, ?_⟩
      refine ⟨P3.keep (l := [D]) (Keep.refl.put (by simp)) (by simp [pd]), (k2.trans k3).new hD0, cs ++ [c], by simp [hl], ?_, by rw [upd_same, List.map_append]; rfl⟩
      intro x hx
      rcases List.mem_append.mp hx with hx | hx
      · exact hc x hx
      · rw [List.mem_singleton.mp hx]
        exact hmem
    · refine ⟨_, D, cs.map fun c => (⟨#[c]⟩ : Str), rfl, rfl, .inl (SqL.of (by rw [hd, List.map_map]; rfl)), ?_, ?_⟩
      · rw [signs_len, List.length_map]
        show cs.length + cs.length * 0 ≤ 16777216
        omega
      · rw [join_signs]
        refine k _ _ ⟨by rw [SX.S_len]; omega, by rw [SX.S_len]; omega, fun c hx => hc c ?_⟩ P2 k2
        simpa using hx
  · exact h.elim
theorem pure__law_is_name (vs : List V) (H : Hp) (Q : VK) (E : XK) (h : sp__law_is_name K vs H Q E) : t__law_is_name K { nx := fun _ H' => Q .non H', rt := Q } (start N__law_is_name vs) H := by
  unfold sp__law_is_name at h
  split at h
  · rename_i v
    obtain ⟨kn, k⟩ := h
    obtain ⟨T, ty, kt⟩ := kn.isS K
    refine ⟨v, rfl, v, _, _, _, _, rfl, .ty "str", ty, kt, _, rfl, ?_⟩
    cases hs : isStrV v
    rotate_left
    · obtain ⟨z, rfl⟩ := isStrV_str hs
      refine iteF ?_
      have hz : z.length ≤ sizeLine := Nat.le_trans kn.tx.len (by decide)
      have k0 := k H (Same.refl H)
      refine ⟨_, rfl, z, rfl, hz, _, _, rfl, rfl, _, rfl, ?_⟩
      by_cases h1 : (z.length : Int) < 1
      · refine ite2 (fun _ => ?_) (fun n => absurd (decide_eq_true h1) n)
        have e1 : isNm (V.str z) = false := by
          show isNmS z = false
          unfold isNmS
          rw [decide_eq_false (show ¬ 1 ≤ z.length by omega)]
          simp
        rw [e1] at k0
        exact k0
      · refine ite2 (fun n => absurd (of_decide_eq_true n) h1) (fun _ => ?_)
        refine ⟨_, rfl, z, rfl, hz, _, _, rfl, rfl, _, rfl, ?_⟩
        by_cases h8 : (8 : Int) < z.length
        · refine ite2 (fun _ => ?_) (fun n => absurd (decide_eq_true h8) n)
          have e1 : isNm (V.str z) = false := by
            show isNmS z = false
            unfold isNmS
            rw [decide_eq_false (show ¬ z.length ≤ 8 by omega)]
            simp
          rw [e1] at k0
          exact k0
        · refine ite2 (fun n => absurd (of_decide_eq_true n) h8) (fun _ => ?_)
          refine ⟨_, rfl, z, rfl, fun D hD => ?_⟩
          refine lcs_fm (fun c => !decide (c ∈ abc.cps.toList)) (fun c => V.str ⟨#[c]⟩) (show z.length ≤ 1000000 from Nat.le_trans kn.tx.len (by decide)) (fun c acc R _ r => ?_) (fun c acc R _ _ r => ?_) ?_
          · exact ⟨_, rfl, c, _, rfl, rfl, _, rfl, r⟩
          · exact ⟨_, rfl, r⟩
          · refine ⟨Nat.zero_le _, fun L hL => ?_⟩
            have nDL : D ≠ L := fun e => by
              rw [← e, upd_same] at hL
              cases hL
            refine ⟨.list ((((z.cps.toList.filter fun c => !decide (c ∈ abc.cps.toList)).map fun c => (⟨#[c]⟩ : Str))).map PyData.str), .list [], .lst (SqL.of (xs := ((z.cps.toList.filter fun c => !decide (c ∈ abc.cps.toList)).map fun c => (⟨#[c]⟩ : Str)).map V.str) ?_) (dpAll_strs _), .lst (SqL.of upd_same) .nil, shaped_strs ?_, rfl, ?_⟩
            · rw [upd_ne nDL, upd_same, List.map_map]
              rfl
            · intro y hy c hc
              obtain ⟨c', hc', rfl⟩ := List.mem_map.mp hy
              have e : c = c' := by simpa using hc
              rw [e]
              exact kn.tx.ok c' (List.mem_filter.mp hc').1
            · rw [eqv_nil]
              have e2 := k _ (U.Same.new (same_new (o := HO.lst ((z.cps.toList.filter fun c => !decide (c ∈ abc.cps.toList)).map fun c => V.str ⟨#[c]⟩)) hD) (o := HO.lst []) hL)
              have e1 : isNm (V.str z) = (List.map PyData.str ((z.cps.toList.filter fun c => !decide (c ∈ abc.cps.toList)).map fun c => (⟨#[c]⟩ : Str))).isEmpty := by
                show isNmS z = _
                unfold isNmS
                rw [decide_eq_true (show 1 ≤ z.length by omega), decide_eq_true (show z.length ≤ 8 by omega), Bool.true_and, Bool.true_and]
                rw [Bool.eq_iff_iff, List.isEmpty_iff, List.map_eq_nil_iff, List.map_eq_nil_iff, List.filter_eq_nil_iff, List.all_eq_true]
                simp
              rw [e1] at e2
              exact e2
    · refine iteT (iteT ?_)
      have e1 : isNm v = false := isNm_notStr hs
      have e2 := k H (Same.refl H)
      rw [e1] at e2
      exact e2
  · exact h.elim

theorem isWd.ok {z : Str} (h : isWd z) : TxOk z := ⟨by have := h.2.1; omega, fun c hc => by
  have h1 := h.2.2 c hc
  have h2 : ∀ d ∈ abc.cps.toList, d < 1114112 := by decide +kernel
  exact h2 c h1⟩
end G

set_option Elab.async false
set_option linter.all false
set_option maxRecDepth 100000
set_option maxHeartbeats 4000000
/-! Promises of law k16. -/
namespace G16
open PySem PySem.Spec PyProof.Rows L2 U G
/-- the fifteen answers about an error of the class named x -/
def kindsOf (x : Str) : List V := errNames.map fun y => V.bl (decide (x = y))
def nmAt (k : Int) : Str := errNames.getD k.toNat ""
def sp__law_pot (K : PySem.W.Frag) : Sp := fun vs H Q _ => match vs with
  | [.ref a, .int k] => 0 ≤ k ∧ k < 100 ∧ ∃ ns : List Int, SqL K H a (ns.map V.int) ∧ ∀ p H', H p = none → PotAt H' p → Same H H' → Q (.ref p) H'
  | _ => False
def sp__law_text (K : PySem.W.Frag) : Sp := fun vs H Q _ => match vs with
  | [.ref p] => PotAt H p ∧ ∀ z H', PotAt H' p → Keep [p] H H' → Q (.str z) H'
  | _ => False
def sp__law_kinds (K : PySem.W.Frag) : Sp := fun vs H Q _ => match vs with
  | [.ref e] => ErrK K ∧ ∃ x, x ∈ errNames ∧ H e = some (ExO (.ref (He.ga K x)) e) ∧ ∀ l H', H' l = some (.lst (kindsOf x)) → Same H H' → Q (.ref l) H'
  | _ => False
def spH__law_kinds (K : PySem.W.Frag) (ea : Addr) (cls : Value) (ed : Option Addr) : Sp := fun vs H Q _ => match vs with
  | [.ref e] => e = ea ∧ ed = none ∧ ErrK K ∧ ∃ x, x ∈ errNames ∧ cls = .ref (He.ga K x) ∧ ∀ l H', H' l = some (.lst (kindsOf x)) → Same H H' → Q (.ref l) H'
  | _ => False
/-- errors of the classes named xs stand at as -/
inductive ErsAt (K : PySem.W.Frag) (H : Hp) : List Str → List Addr → Prop
  | nil : ErsAt K H [] []
  | cons {x : Str} {a : Addr} {xs : List Str} {l : List Addr} (h : H a = some (ExO (.ref (He.ga K x)) a)) (r : ErsAt K H xs l) : ErsAt K H (x :: xs) (a :: l)
def sp__law_made (K : PySem.W.Frag) : Sp := fun vs H Q _ => match vs with
  | [.str z] => ∀ (as : List Addr) l H', ErsAt K H' errNames as → H' l = some (.lst (as.map V.ref)) → Same H H' → Q (.ref l) H'
  | _ => False
def sp__law_raise_some (K : PySem.W.Frag) : Sp := fun vs H Q E => match vs with
  | [.int k, .str z] => 0 ≤ k ∧ k < 8 ∧ E (.ref (He.ga K (nmAt k))) none H
  | _ => False
def sp__law_raise (K : PySem.W.Frag) : Sp := fun vs H Q E => match vs with
  | [.int k, .str z] => 0 ≤ k ∧ k < 15 ∧ E (.ref (He.ga K (nmAt k))) none H
  | _ => False
def sp__law_raised (K : PySem.W.Frag) : Sp := fun vs H Q _ => match vs with
  | [.int k, .str z] => ErrK K ∧ 0 ≤ k ∧ k < 15 ∧ ∀ l H', H' l = some (.lst (kindsOf (nmAt k))) → Same H H' → Q (.ref l) H'
  | _ => False
def sp__law_numbered (K : PySem.W.Frag) : Sp := fun vs H Q _ => match vs with
  | [v] => ErrK K ∧ Kn K H v ∧ isNm v = false ∧ ∀ l H', H' l = some (.lst (kindsOf "NoName")) → Same H H' → Q (.ref l) H'
  | _ => False
def sp__law_right (K : PySem.W.Frag) : Sp := fun vs H Q _ => match vs with
  | [.ref p] => ErrK K ∧ PotAt H p ∧ ∀ H', Keep [p] H H' → Q (.bl true) H'
  | _ => False
def sp_law (K : PySem.W.Frag) : Sp := fun vs H Q _ => match vs with
  | [.ref a] => ErrK K ∧ ∃ ns : List Int, SqL K H a (ns.map V.int) ∧ ns.length ≤ 63 ∧ ∀ H', Q (.bl true) H'
  | _ => False
end G16

set_option Elab.async false
set_option linter.all false
set_option maxRecDepth 100000
set_option maxHeartbeats 4000000

/-! Readings, printed by gen.py. -/
namespace G16
open PySem PySem.Spec PyProof.Rows L2 U G
abbrev N__law_pot : List Str := ["_law_script", "_law_k", "_law_cell"]
def t__law_pot (K : PySem.W.Frag) : TS :=
  (tSeq (tAsg (tC (.int 0)) (gName 2))
  (tSeq (tIfS (tTest (tOp rLtI (tVar 1) (tCB (rLenSeq K) (tCons (tVar 0) tNil)))) (tAsg (tOp (rIxL K) (tVar 0) (tVar 1)) (gName 2)) tNext)
  (tRet (tLst (tCons (tCB rMax2 (tCons (tC (.int 0)) (tCons (tOp rSubI (tCB rAbs (tCons (tVar 2) tNil)) (tOp rPowI (tC (.int 10)) (tC (.int 18)))) tNil))) (tCons (tOp rAddI (tOp rModI (tOp rAddI (tCB rAbs (tCons (tVar 2) tNil)) (tOp rMulI (tC (.int 7919)) (tVar 1))) (tC (.int 2147483629))) (tC (.int 1))) tNil))))))
abbrev N__law_kinds : List Str := ["_law_e", "_law_kinds_here"]
def t__law_kinds (K : PySem.W.Frag) : TS :=
  (tSeq (tAsg (tLst (tCons (tCB (rIsO K) (tCons (tVar 0) (tCons (tC (.ref (He.ga K "NoName"))) tNil))) (tCons (tCB (rIsO K) (tCons (tVar 0) (tCons (tC (.ref (He.ga K "BadKind"))) tNil))) (tCons (tCB (rIsO K) (tCons (tVar 0) (tCons (tC (.ref (He.ga K "NoText"))) tNil))) (tCons (tCB (rIsO K) (tCons (tVar 0) (tCons (tC (.ref (He.ga K "NoPerson"))) tNil))) tNil))))) (gName 1))
  (tSeq (tAsg (tOp rCat (tVar 1) (tLst (tCons (tCB (rIsO K) (tCons (tVar 0) (tCons (tC (.ref (He.ga K "Taken"))) tNil))) (tCons (tCB (rIsO K) (tCons (tVar 0) (tCons (tC (.ref (He.ga K "NoKind"))) tNil))) (tCons (tCB (rIsO K) (tCons (tVar 0) (tCons (tC (.ref (He.ga K "NoMatter"))) tNil))) (tCons (tCB (rIsO K) (tCons (tVar 0) (tCons (tC (.ref (He.ga K "NoThing"))) tNil))) tNil)))))) (gName 1))
  (tSeq (tAsg (tOp rCat (tVar 1) (tLst (tCons (tCB (rIsO K) (tCons (tVar 0) (tCons (tC (.ref (He.ga K "NoWay"))) tNil))) (tCons (tCB (rIsO K) (tCons (tVar 0) (tCons (tC (.ref (He.ga K "NoRows"))) tNil))) (tCons (tCB (rIsO K) (tCons (tVar 0) (tCons (tC (.ref (He.ga K "NoDay"))) tNil))) (tCons (tCB (rIsO K) (tCons (tVar 0) (tCons (tC (.ref (He.ga K "NoHold"))) tNil))) tNil)))))) (gName 1))
  (tRet (tOp rCat (tVar 1) (tLst (tCons (tCB (rIsO K) (tCons (tVar 0) (tCons (tC (.ref (He.ga K "NoTelling"))) tNil))) (tCons (tCB (rIsO K) (tCons (tVar 0) (tCons (tC (.ref (He.ga K "NoAnswer"))) tNil))) (tCons (tCB (rIsO K) (tCons (tVar 0) (tCons (tC (.ref (He.ga K "Answered"))) tNil))) tNil)))))))))
def tH__law_kinds (K : PySem.W.Frag) (ea : Addr) (cls : Value) (ed : Option Addr) : TS :=
  (tSeq (tAsg (tLst (tCons (tCB (rIsX K ea cls ed) (tCons (tVar 0) (tCons (tC (.ref (He.ga K "NoName"))) tNil))) (tCons (tCB (rIsX K ea cls ed) (tCons (tVar 0) (tCons (tC (.ref (He.ga K "BadKind"))) tNil))) (tCons (tCB (rIsX K ea cls ed) (tCons (tVar 0) (tCons (tC (.ref (He.ga K "NoText"))) tNil))) (tCons (tCB (rIsX K ea cls ed) (tCons (tVar 0) (tCons (tC (.ref (He.ga K "NoPerson"))) tNil))) tNil))))) (gName 1))
  (tSeq (tAsg (tOp rCat (tVar 1) (tLst (tCons (tCB (rIsX K ea cls ed) (tCons (tVar 0) (tCons (tC (.ref (He.ga K "Taken"))) tNil))) (tCons (tCB (rIsX K ea cls ed) (tCons (tVar 0) (tCons (tC (.ref (He.ga K "NoKind"))) tNil))) (tCons (tCB (rIsX K ea cls ed) (tCons (tVar 0) (tCons (tC (.ref (He.ga K "NoMatter"))) tNil))) (tCons (tCB (rIsX K ea cls ed) (tCons (tVar 0) (tCons (tC (.ref (He.ga K "NoThing"))) tNil))) tNil)))))) (gName 1))
  (tSeq (tAsg (tOp rCat (tVar 1) (tLst (tCons (tCB (rIsX K ea cls ed) (tCons (tVar 0) (tCons (tC (.ref (He.ga K "NoWay"))) tNil))) (tCons (tCB (rIsX K ea cls ed) (tCons (tVar 0) (tCons (tC (.ref (He.ga K "NoRows"))) tNil))) (tCons (tCB (rIsX K ea cls ed) (tCons (tVar 0) (tCons (tC (.ref (He.ga K "NoDay"))) tNil))) (tCons (tCB (rIsX K ea cls ed) (tCons (tVar 0) (tCons (tC (.ref (He.ga K "NoHold"))) tNil))) tNil)))))) (gName 1))
  (tRet (tOp rCat (tVar 1) (tLst (tCons (tCB (rIsX K ea cls ed) (tCons (tVar 0) (tCons (tC (.ref (He.ga K "NoTelling"))) tNil))) (tCons (tCB (rIsX K ea cls ed) (tCons (tVar 0) (tCons (tC (.ref (He.ga K "NoAnswer"))) tNil))) (tCons (tCB (rIsX K ea cls ed) (tCons (tVar 0) (tCons (tC (.ref (He.ga K "Answered"))) tNil))) tNil)))))))))
abbrev N__law_made : List Str := ["_law_text_here", "_law_made_here"]
def t__law_made (K : PySem.W.Frag) : TS :=
  (tSeq (tAsg (tLst (tCons (tExc (He.ga K "NoName") (tVar 0)) (tCons (tExc (He.ga K "BadKind") (tVar 0)) (tCons (tExc (He.ga K "NoText") (tVar 0)) (tCons (tExc (He.ga K "NoPerson") (tVar 0)) (tCons (tExc (He.ga K "Taken") (tVar 0)) (tCons (tExc (He.ga K "NoKind") (tVar 0)) (tCons (tExc (He.ga K "NoMatter") (tVar 0)) tNil)))))))) (gName 1))
  (tSeq (tAsg (tOp rCat (tVar 1) (tLst (tCons (tExc (He.ga K "NoThing") (tVar 0)) (tCons (tExc (He.ga K "NoWay") (tVar 0)) (tCons (tExc (He.ga K "NoRows") (tVar 0)) (tCons (tExc (He.ga K "NoDay") (tVar 0)) (tCons (tExc (He.ga K "NoHold") (tVar 0)) (tCons (tExc (He.ga K "NoTelling") (tVar 0)) tNil)))))))) (gName 1))
  (tRet (tOp rCat (tVar 1) (tLst (tCons (tExc (He.ga K "NoAnswer") (tVar 0)) (tCons (tExc (He.ga K "Answered") (tVar 0)) tNil)))))))
abbrev N__law_numbered : List Str := ["_law_thing", "_law_found", "_law_e"]
def t__law_numbered (K : PySem.W.Frag) : TS :=
  (tSeq (tAsg (tLst tNil) (gName 1))
  (tSeq (fun D σ H => (fun W => (tDrop (tMt (He.ga K "People") "number_of" (sp_People_number_of K) [] (WE W) (tMk (He.ga K "People") (sp_People___init__ K) [] ES0 tNil) (tCons (tVar 0) tNil)))) (wAs K (.ref (He.ga K "HallError")) 2 (fun ea cls ed => (tAsg (tCl (spH__law_kinds K ea cls ed) [] ES0 (tCons (tVar 2) tNil)) (gName 1))) (fun _ _ _ _ => False) D) D σ H)
  (tRet (tVar 1))))
abbrev N__law_raise_some : List Str := ["_law_k", "_law_text_here"]
def t__law_raise_some (K : PySem.W.Frag) (W : WX) (H0 : Hp) : TS :=
  (tSeq (tIfS (tTest (tOp rEq (tVar 0) (tC (.int 0)))) (tRsV (He.ga K "NoName") W H0 1) tNext)
  (tSeq (tIfS (tTest (tOp rEq (tVar 0) (tC (.int 1)))) (tRsV (He.ga K "BadKind") W H0 1) tNext)
  (tSeq (tIfS (tTest (tOp rEq (tVar 0) (tC (.int 2)))) (tRsV (He.ga K "NoText") W H0 1) tNext)
  (tSeq (tIfS (tTest (tOp rEq (tVar 0) (tC (.int 3)))) (tRsV (He.ga K "NoPerson") W H0 1) tNext)
  (tSeq (tIfS (tTest (tOp rEq (tVar 0) (tC (.int 4)))) (tRsV (He.ga K "Taken") W H0 1) tNext)
  (tSeq (tIfS (tTest (tOp rEq (tVar 0) (tC (.int 5)))) (tRsV (He.ga K "NoKind") W H0 1) tNext)
  (tSeq (tIfS (tTest (tOp rEq (tVar 0) (tC (.int 6)))) (tRsV (He.ga K "NoMatter") W H0 1) tNext)
  (tRsV (He.ga K "NoThing") W H0 1))))))))
abbrev N__law_raise : List Str := ["_law_k", "_law_text_here"]
def t__law_raise (K : PySem.W.Frag) (W : WX) (H0 : Hp) : TS :=
  (tSeq (tIfS (tTest (tOp rLtI (tVar 0) (tC (.int 8)))) (tDrop (tCl (sp__law_raise_some K) [] (WE W) (tCons (tVar 0) (tCons (tVar 1) tNil)))) tNext)
  (tSeq (tIfS (tTest (tOp rEq (tVar 0) (tC (.int 8)))) (tRsV (He.ga K "NoWay") W H0 1) tNext)
  (tSeq (tIfS (tTest (tOp rEq (tVar 0) (tC (.int 9)))) (tRsV (He.ga K "NoRows") W H0 1) tNext)
  (tSeq (tIfS (tTest (tOp rEq (tVar 0) (tC (.int 10)))) (tRsV (He.ga K "NoDay") W H0 1) tNext)
  (tSeq (tIfS (tTest (tOp rEq (tVar 0) (tC (.int 11)))) (tRsV (He.ga K "NoHold") W H0 1) tNext)
  (tSeq (tIfS (tTest (tOp rEq (tVar 0) (tC (.int 12)))) (tRsV (He.ga K "NoTelling") W H0 1) tNext)
  (tSeq (tIfS (tTest (tOp rEq (tVar 0) (tC (.int 13)))) (tRsV (He.ga K "NoAnswer") W H0 1) tNext)
  (tRsV (He.ga K "Answered") W H0 1))))))))
abbrev N__law_raised : List Str := ["_law_k", "_law_text_here", "_law_found", "_law_e"]
def t__law_raised (K : PySem.W.Frag) : TS :=
  (tSeq (tAsg (tLst tNil) (gName 2))
  (tSeq (fun D σ H => (fun W => (tDrop (tCl (sp__law_raise K) [] (WE W) (tCons (tVar 0) (tCons (tVar 1) tNil))))) (wAs K (.ref (He.ga K "HallError")) 3 (fun ea cls ed => (tAsg (tCl (spH__law_kinds K ea cls ed) [] ES0 (tCons (tVar 3) tNil)) (gName 2))) (fun _ _ _ _ => False) D) D σ H)
  (tRet (tVar 2))))
abbrev N__law_text : List Str := ["_law_pot_here", "_law_signs", "_law_k"]
def t__law_text (K : PySem.W.Frag) : TS :=
  (tSeq (tAsg (tC (.str "abcdefghijklmnopqrstuvwxyz ABXYZ,.;:-_0123456789")) (gName 1))
  (tRet (tM1 (mJoin K) (tC (.str "")) (tLc (iRng1 (tCons (tCl (sp__law_draw K) [] ES0 (tCons (tVar 0) (tCons (tC (.int 31)) tNil))) tNil)) (gName 2) tYes (tOp rIxS (tVar 1) (tCl (sp__law_draw K) [] ES0 (tCons (tVar 0) (tCons (tCB rLenStr (tCons (tVar 1) tNil)) tNil)))) [2]))))
abbrev N__law_right : List Str := ["_law_pot_here", "_law_text_here", "_law_k", "_law_e", "_law_thing", "_law_at"]
def t__law_right (K : PySem.W.Frag) : TS :=
  (tSeq (tAsg (tCl (sp__law_text K) [] ES0 (tCons (tVar 0) tNil)) (gName 1))
  (tSeq (tFor (iEnum K (tCons (tCl (sp__law_made K) [] ES0 (tCons (tVar 1) tNil)) tNil)) (gTup K 2 (gCons (gName 2) (gCons (gName 3) gNil))) (tSeq (tIfS (tTest (tOp (rNeD K) (tCl (sp__law_kinds K) [] ES0 (tCons (tVar 3) tNil)) (tLc (iRng1 (tCons (tC (.int 15)) tNil)) (gName 5) tYes (tOp rEq (tVar 2) (tVar 5)) [5]))) (tRet (tC (.bl false))) tNext)
  (tIfS (tOr (tNot (tB (tCB (rIsO K) (tCons (tVar 3) (tCons (tC (.ref (He.ga K "HallError"))) tNil))))) (tNot (tB (tCB (rIsO K) (tCons (tVar 3) (tCons (tC (.ty "ValueError")) tNil)))))) (tRet (tC (.bl false))) tNext)))
  (tSeq (tAsg (tCl (sp__law_draw K) [] ES0 (tCons (tVar 0) (tCons (tC (.int 15)) tNil))) (gName 2))
  (tSeq (tIfS (tTest (tOp (rNeD K) (tCl (sp__law_raised K) [] ES0 (tCons (tVar 2) (tCons (tVar 1) tNil))) (tLc (iRng1 (tCons (tC (.int 15)) tNil)) (gName 5) tYes (tOp rEq (tVar 2) (tVar 5)) [5]))) (tRet (tC (.bl false))) tNext)
  (tSeq (tAsg (tOp (rIxL K) (tLst (tCons (tC (.str "")) (tCons (tC (.str "Ann")) (tCons (tC (.str "abcdefghi")) (tCons (tC (.str "a b")) (tCons (tC .non) (tCons (tC (.int 7)) (tCons (tC (.bl true)) (tCons (tTup (tCons (tC (.str "ann")) tNil)) (tCons (tLst (tCons (tC (.str "ann")) tNil)) tNil)))))))))) (tCl (sp__law_draw K) [] ES0 (tCons (tVar 0) (tCons (tC (.int 9)) tNil)))) (gName 4))
  (tRet (tOp (rEqD K) (tCl (sp__law_numbered K) [] ES0 (tCons (tVar 4) tNil)) (tLc (iRng1 (tCons (tC (.int 15)) tNil)) (gName 5) tYes (tOp rEq (tVar 5) (tC (.int 0))) [5]))))))))
abbrev N_law : List Str := ["_law_script", "_law_k"]
def t_law (K : PySem.W.Frag) : TS :=
  (tSeq (tFor (iRng1 (tCons (tCB rMax2 (tCons (tC (.int 1)) (tCons (tCB rMin2 (tCons (tC (.int 8)) (tCons (tCB (rLenSeq K) (tCons (tVar 0) tNil)) tNil))) tNil))) tNil)) (gName 1) (tIfS (tNot (tB (tCl (sp__law_right K) [] ES0 (tCons (tCl (sp__law_pot K) [] ES0 (tCons (tVar 0) (tCons (tVar 1) tNil))) tNil)))) (tRet (tC (.bl false))) tNext))
  (tRet (tC (.bl true))))
end G16

set_option Elab.async false
set_option linter.all false
set_option maxRecDepth 100000
set_option maxHeartbeats 4000000
/-! The readings of law k16 keep their promises. -/
namespace G16
open PySem PySem.Spec PyProof.Rows L2 U G
variable {K : PySem.W.Frag}
theorem potNe {H : Hp} {p q : Addr} (h : PotAt H p) (n : H q = none) : p ≠ q := by
  obtain ⟨a, b, e, _⟩ := h
  exact ne_of_none e n
theorem potSame {H H' : Hp} {p : Addr} (h : PotAt H p) (s : Same H H') : PotAt H' p := h.keep (l := []) (.same s) (by simp)
theorem ifNe {a b : Int} {A B : Prop} (h : a ≠ b) (hb : B) : if decide (V.int a = V.int b) = true then A else B := by
  rw [decide_eq_false fun e => h (V.int.inj e)]
  exact iteF hb
theorem ifEq {a b : Int} {A B : Prop} (h : a = b) (ha : A) : if decide (V.int a = V.int b) = true then A else B := by
  rw [decide_eq_true (by rw [h])]
  exact iteT ha
theorem nmAt_mem {k : Int} (h0 : 0 ≤ k) (h1 : k < 15) : nmAt k ∈ errNames := by
  have h : ∀ i, i < 15 → errNames.getD i "" ∈ errNames := by decide +kernel
  exact h k.toNat (by omega)

/-! ### the pot -/
theorem pure__law_pot (vs : List V) (H : Hp) (Q : VK) (E : XK) (h : sp__law_pot K vs H Q E) : t__law_pot K { nx := fun _ H' => Q .non H', rt := Q } (start N__law_pot vs) H := by
  unfold sp__law_pot at h
  split at h
  · rename_i a k
    obtain ⟨h0, h8, ns, hs, q⟩ := h
    have fin : ∀ c : Int, (tRet (tLst (tCons (tCB rMax2 (tCons (tC (.int 0)) (tCons (tOp rSubI (tCB rAbs (tCons (tVar 2) tNil)) (tOp rPowI (tC (.int 10)) (tC (.int 18)))) tNil))) (tCons (tOp rAddI (tOp rModI (tOp rAddI (tCB rAbs (tCons (tVar 2) tNil)) (tOp rMulI (tC (.int 7919)) (tVar 1))) (tC (.int 2147483629))) (tC (.int 1))) tNil)))) { nx := fun _ H' => Q .non H', rt := Q } [some (.ref a), some (.int k), some (.int c)] H := fun c => by
      refine ⟨_, rfl, _, rfl, _, _, rfl, rfl, ⟨by decide, by decide, by decide⟩, _, _, rfl, rfl, _, _, rfl, ?_⟩
      refine ⟨_, rfl, _, rfl, _, rfl, _, _, rfl, rfl, .inl ⟨by decide, by decide⟩, _, _, rfl, rfl, _, _, rfl, rfl, (by show (0 : Int) < 2147483629; decide), _, _, rfl, rfl, (by show 2 ≤ sizeLine; decide), fun p np => ?_⟩
      refine q p _ np ⟨_, _, upd_same, ?_, ?_, ?_⟩ (same_new np)
      · split <;> omega
      · have := Int.emod_nonneg ((if c < 0 then -c else c) + 7919 * k) (show (2147483629 : Int) ≠ 0 by decide)
        omega
      · have := Int.emod_lt_of_pos ((if c < 0 then -c else c) + 7919 * k) (show (0 : Int) < 2147483629 by decide)
        omega
    refine ⟨_, rfl, _, rfl, a, _, rfl, .inl hs, _, _, rfl, rfl, _, rfl, ?_⟩
    by_cases hk : k < ((ns.map V.int).length : Int)
    · rw [decide_eq_true hk]
      obtain ⟨v, ev, c, rfl⟩ := menu (n := (ns.map V.int).length) (fun v => ∃ c, v = V.int c) rfl h0 hk (fun v hv => by
        obtain ⟨c, _, rfl⟩ := List.mem_map.mp hv
        exact ⟨c, rfl⟩)
      exact iteT ⟨_, rfl, _, rfl, a, _, _, _, rfl, rfl, hs, ev, fin c⟩
    · rw [decide_eq_false hk]
      exact iteF (fin 0)
  · exact h.elim

/-! ### the text -/
abbrev sg : Str := "abcdefghijklmnopqrstuvwxyz ABXYZ,.;:-_0123456789"
theorem sg_len : sg.cps.toList.length = 48 := by decide +kernel
theorem sg_size : sg.length = 48 := by decide +kernel
theorem pure__law_text (vs : List V) (H : Hp) (Q : VK) (E : XK) (h : sp__law_text K vs H Q E) : t__law_text K { nx := fun _ H' => Q .non H', rt := Q } (start N__law_text vs) H := by
  unfold sp__law_text at h
  split at h
  · rename_i p
    obtain ⟨hP, k⟩ := h
    refine ⟨⟨_, rfl⟩, _, rfl, hP, by decide, by decide, fun n H1 n0 n31 P1 k1 => ?_⟩
    refine ⟨_, rfl, by omega, by omega, fun D hD => ?_⟩
    have pd : p ≠ D := potNe P1 hD
    have hD0 : H D = none := k1.free (by simp [pd.symm]) hD
    refine lc_range (g := gName 2) (vs := [2]) (lo := 0) (n := n.toNat) (fun i H' => PotAt H' p ∧ Keep [p] H H' ∧ ∃ cs : List Nat, cs.length = i ∧ H' D = some (.lst (cs.map fun c => V.str ⟨#[c]⟩))) ⟨potSame P1 (same_new hD), k1.new hD0, [], rfl, upd_same⟩ (fun i H2 hi ⟨P2, k2, cs, hl, hd⟩ => ?_) (fun H2 ⟨P2, k2, cs, hl, hd⟩ => ?_)
    · refine ⟨wipe1, _, rfl, _, rfl, _, rfl, _, rfl, (by rw [sg_size]; decide), P2, (by rw [sg_size]; decide), (by rw [sg_size]; decide), fun d H3 d0 d48 P3 k3 => ?_⟩
      obtain ⟨c, hat, _⟩ := str_at sg_len d0 (by rw [sg_size] at d48; exact d48)
      have hd3 := k3.k _ _ hd (by simp [pd.symm])
      refine ⟨_, _, c, rfl, rfl, by rw [sg_size]; decide, hat, _, hd3, by rw [List.length_map, sizeLine_eq]; omega, ?_⟩
      exact ⟨P3.keep (l := [D]) (Keep.refl.put (by simp)) (by simp [pd]), (k2.trans k3).new hD0, cs ++ [c], by simp [hl], by rw [upd_same, List.map_append]; rfl⟩
    · refine ⟨_, D, cs.map fun c => (⟨#[c]⟩ : Str), rfl, rfl, .inl (SqL.of (by rw [hd, List.map_map]; rfl)), ?_, k _ _ P2 k2⟩
      rw [signs_len, List.length_map]
      show cs.length + cs.length * 0 ≤ 16777216
      omega
  · exact h.elim

/-! ### the fifteen questions -/
def isArgs (K : PySem.W.Frag) (r : RC) : List Str → TA
  | [] => tNil
  | y :: ys => tCons (tCB r (tCons (tVar 0) (tCons (tC (.ref (He.ga K y))) tNil))) (isArgs K r ys)
theorem is_args {r : RC} {e : Addr} {x : Str} {H : Hp} {σ : L2.St} (h0 : σ[0]? = some (some (V.ref e))) : ∀ (ys : List Str) (Q : List V → Hp → Prop), (∀ y ∈ ys, ∀ Q' : VK, Q' (.bl (decide (x = y))) H → r [.ref e, .ref (He.ga K y)] H Q') → Q (ys.map fun y => V.bl (decide (x = y))) H → isArgs K r ys σ H Q
  | [], _, _, q => q
  | y :: ys, Q, hr, q => ⟨_, h0, hr y (List.mem_cons_self ..) _ (is_args h0 ys _ (fun z hz => hr z (List.mem_cons_of_mem _ hz)) q)⟩
def tK (K : PySem.W.Frag) (r : RC) : TS :=
  tSeq (tAsg (tLst (isArgs K r ["NoName", "BadKind", "NoText", "NoPerson"])) (gName 1))
  (tSeq (tAsg (tOp rCat (tVar 1) (tLst (isArgs K r ["Taken", "NoKind", "NoMatter", "NoThing"]))) (gName 1))
  (tSeq (tAsg (tOp rCat (tVar 1) (tLst (isArgs K r ["NoWay", "NoRows", "NoDay", "NoHold"]))) (gName 1))
  (tRet (tOp rCat (tVar 1) (tLst (isArgs K r ["NoTelling", "NoAnswer", "Answered"]))))))
theorem kinds_walk {r : RC} {e : Addr} {x : Str} {H : Hp} {Q : VK} {D : Ends} (hD : D.rt = Q) (hr : ∀ y ∈ errNames, ∀ (H' : Hp) (Q' : VK), Same H H' → Q' (.bl (decide (x = y))) H' → r [.ref e, .ref (He.ga K y)] H' Q')
    (k : ∀ l H', H' l = some (.lst (kindsOf x)) → Same H H' → Q (.ref l) H') : tK K r D [some (.ref e), none] H := by
  subst hD
  have m1 : ∀ y ∈ (["NoName", "BadKind", "NoText", "NoPerson"] : List Str), y ∈ errNames := by decide +kernel
  have m2 : ∀ y ∈ (["Taken", "NoKind", "NoMatter", "NoThing"] : List Str), y ∈ errNames := by decide +kernel
  have m3 : ∀ y ∈ (["NoWay", "NoRows", "NoDay", "NoHold"] : List Str), y ∈ errNames := by decide +kernel
  have m4 : ∀ y ∈ (["NoTelling", "NoAnswer", "Answered"] : List Str), y ∈ errNames := by decide +kernel
  have big : ∀ n : Nat, n ≤ 15 → n ≤ sizeLine := fun n h => Nat.le_trans h (by decide)
  refine is_args rfl _ _ (fun y hy Q' q => hr y (m1 y hy) H Q' (Same.refl H) q) ⟨big 4 (by decide), fun l1 n1 => ?_⟩
  have s1 := same_new (o := .lst ((["NoName", "BadKind", "NoText", "NoPerson"] : List Str).map fun y => V.bl (decide (x = y)))) n1
  refine ⟨_, rfl, is_args rfl _ _ (fun y hy Q' q => hr y (m2 y hy) _ Q' s1 q) ⟨big 4 (by decide), fun l2 n2 => ⟨l1, l2, _, _, rfl, rfl, (same_new n2) _ _ upd_same, upd_same, big 8 (by decide), fun l3 n3 => ?_⟩⟩⟩
  have s3 := (s1.new n2).new (o := .lst (((["NoName", "BadKind", "NoText", "NoPerson"] : List Str).map fun y => V.bl (decide (x = y))) ++ ((["Taken", "NoKind", "NoMatter", "NoThing"] : List Str).map fun y => V.bl (decide (x = y))))) n3
  refine ⟨_, rfl, is_args rfl _ _ (fun y hy Q' q => hr y (m3 y hy) _ Q' s3 q) ⟨big 4 (by decide), fun l4 n4 => ⟨l3, l4, _, _, rfl, rfl, (same_new n4) _ _ upd_same, upd_same, big 12 (by decide), fun l5 n5 => ?_⟩⟩⟩
  have s5 := (s3.new n4).new (o := .lst ((((["NoName", "BadKind", "NoText", "NoPerson"] : List Str).map fun y => V.bl (decide (x = y))) ++ ((["Taken", "NoKind", "NoMatter", "NoThing"] : List Str).map fun y => V.bl (decide (x = y)))) ++ ((["NoWay", "NoRows", "NoDay", "NoHold"] : List Str).map fun y => V.bl (decide (x = y))))) n5
  refine ⟨_, rfl, is_args rfl _ _ (fun y hy Q' q => hr y (m4 y hy) _ Q' s5 q) ⟨big 3 (by decide), fun l6 n6 => ⟨l5, l6, _, _, rfl, rfl, (same_new n6) _ _ upd_same, upd_same, big 15 (by decide), fun l7 n7 => ?_⟩⟩⟩
  exact k l7 _ upd_same ((s5.new n6).new n7)
theorem pure__law_kinds (vs : List V) (H : Hp) (Q : VK) (E : XK) (h : sp__law_kinds K vs H Q E) : t__law_kinds K { nx := fun _ H' => Q .non H', rt := Q } (start N__law_kinds vs) H := by
  unfold sp__law_kinds at h
  split at h
  · rename_i e
    obtain ⟨EK, x, hx, he, k⟩ := h
    exact kinds_walk (r := rIsO K) rfl (fun y hy H' Q' s q => ⟨e, _, _, _, _, rfl, s _ _ he, EK.exc x hx, .own _, EK.kit x hx y hy, q⟩) k
  · exact h.elim
theorem pureH__law_kinds {ea : Addr} {cls : Value} {ed : Option Addr} (vs : List V) (H : Hp) (Q : VK) (E : XK) (h : spH__law_kinds K ea cls ed vs H Q E) : tH__law_kinds K ea cls ed { nx := fun _ H' => Q .non H', rt := Q } (start N__law_kinds vs) H := by
  unfold spH__law_kinds at h
  split at h
  · rename_i e
    obtain ⟨rfl, rfl, EK, x, hx, rfl, k⟩ := h
    exact kinds_walk (r := rIsX K e (.ref (He.ga K x)) none) rfl (fun y hy H' Q' s q => ⟨_, _, _, _, rfl, rfl, EK.exc x hx, rfl, .own _, EK.kit x hx y hy, q⟩) k
  · exact h.elim

/-! ### the fifteen errors -/
def exArgs (K : PySem.W.Frag) : List Str → TA
  | [] => tNil
  | x :: xs => tCons (tExc (He.ga K x) (tVar 0)) (exArgs K xs)
theorem ex_args {σ : L2.St} {v : V} (h0 : σ[0]? = some (some v)) : ∀ (xs : List Str) (H : Hp) (Q : List V → Hp → Prop), (∀ as H', ErsAt K H' xs as → as.length = xs.length → Same H H' → Q (as.map V.ref) H') → exArgs K xs σ H Q
  | [], H, Q, k => k [] H .nil rfl (Same.refl H)
  | x :: xs, H, Q, k => ⟨_, h0, fun a na => ex_args h0 xs _ _ fun as H' er ln s => k (a :: as) H' (.cons (s _ _ upd_same) er) (by rw [List.length_cons, List.length_cons, ln]) ((same_new na).trans s)⟩
theorem ErsAt.same {H H' : Hp} (s : Same H H') : ∀ {xs : List Str} {l : List Addr}, ErsAt K H xs l → ErsAt K H' xs l
  | _, _, .nil => .nil
  | _, _, .cons h r => .cons (s _ _ h) (ErsAt.same s r)
theorem ErsAt.app {H : Hp} : ∀ {xs ys : List Str} {l m : List Addr}, ErsAt K H xs l → ErsAt K H ys m → ErsAt K H (xs ++ ys) (l ++ m)
  | _, _, _, _, .nil, b => b
  | _, _, _, _, .cons h r, b => .cons h (ErsAt.app r b)
theorem ErsAt.at {H : Hp} : ∀ {xs : List Str} {l : List Addr}, ErsAt K H xs l → ∀ {i : Nat} {a : Addr}, l[i]? = some a → i < xs.length ∧ H a = some (ExO (.ref (He.ga K (xs.getD i ""))) a)
  | _, _, .nil, i, a, e => by cases e
  | _, _, .cons h r, 0, a, e => by
    cases e
    exact ⟨Nat.zero_lt_succ _, h⟩
  | _, _, .cons h r, i + 1, a, e => by
    obtain ⟨h1, h2⟩ := ErsAt.at r (i := i) (a := a) e
    exact ⟨Nat.succ_lt_succ h1, h2⟩
def tM (K : PySem.W.Frag) : TS :=
  tSeq (tAsg (tLst (exArgs K ["NoName", "BadKind", "NoText", "NoPerson", "Taken", "NoKind", "NoMatter"])) (gName 1))
  (tSeq (tAsg (tOp rCat (tVar 1) (tLst (exArgs K ["NoThing", "NoWay", "NoRows", "NoDay", "NoHold", "NoTelling"]))) (gName 1))
  (tRet (tOp rCat (tVar 1) (tLst (exArgs K ["NoAnswer", "Answered"])))))
theorem pure__law_made (vs : List V) (H : Hp) (Q : VK) (E : XK) (h : sp__law_made K vs H Q E) : t__law_made K { nx := fun _ H' => Q .non H', rt := Q } (start N__law_made vs) H := by
  unfold sp__law_made at h
  split at h
  · rename_i z
    show tM K _ [some (.str z), none] H
    have big : ∀ n : Nat, n ≤ 15 → n ≤ sizeLine := fun n h => Nat.le_trans h (by decide)
    refine ex_args rfl _ _ _ fun as H1 e1 len1 s1 => ⟨big _ (by rw [List.length_map, len1]; decide), fun l1 n1 => ?_⟩
    refine ⟨_, rfl, ex_args rfl _ _ _ fun bs H2 e2 len2 s2 => ⟨big _ (by rw [List.length_map, len2]; decide), fun l2 n2 => ⟨l1, l2, _, _, rfl, rfl, (same_new n2) _ _ (s2 _ _ upd_same), upd_same, ?_, fun l3 n3 => ?_⟩⟩⟩
    · rw [List.length_map, List.length_map, len1, len2]
      exact big 13 (by decide)
    refine ⟨_, rfl, ex_args rfl _ _ _ fun cs H3 e3 len3 s3 => ⟨big _ (by rw [List.length_map, len3]; decide), fun l4 n4 => ⟨l3, l4, _, _, rfl, rfl, (same_new n4) _ _ (s3 _ _ upd_same), upd_same, ?_, fun l5 n5 => ?_⟩⟩⟩
    · rw [List.length_append, List.length_map, List.length_map, List.length_map, len1, len2, len3]
      exact big 15 (by decide)
    have u5 := (same_new n4).new (o := .lst ((as.map V.ref ++ bs.map V.ref) ++ cs.map V.ref)) n5
    have u3 := ((same_new n2).new n3).trans (s3.trans u5)
    have u1 := (same_new n1).trans (s2.trans u3)
    refine h ((as ++ bs) ++ cs) l5 _ (((e1.same u1).app (e2.same u3)).app (e3.same u5)) ?_ (s1.trans u1)
    rw [upd_same, List.map_append, List.map_append]
  · exact h.elim

/-! ### raising -/
theorem pure__law_raise_some (vs : List V) (H : Hp) (Q : VK) (E : XK) (h : sp__law_raise_some K vs H Q E) : t__law_raise_some K (fun cls d _ H => E cls d H) H { nx := fun _ H' => Q .non H', rt := Q } (start N__law_raise_some vs) H := by
  unfold sp__law_raise_some at h
  split at h
  · rename_i k z
    obtain ⟨h0, h8, hE⟩ := h
    have rs : ∀ (x : Str) (D : Ends), nmAt k = x → tRsV (He.ga K x) (fun cls d _ H => E cls d H) H 1 D [some (.int k), some (.str z)] H := fun x D e => by
      subst e
      exact ⟨_, rfl, fun a na => ⟨na, hE⟩⟩
    refine ⟨_, rfl, rfl, _, rfl, ?_⟩
    by_cases c0 : k = 0
    · exact ifEq c0 (rs _ _ (by rw [c0]; rfl))
    refine ifNe c0 ⟨_, rfl, rfl, _, rfl, ?_⟩
    by_cases c1 : k = 1
    · exact ifEq c1 (rs _ _ (by rw [c1]; rfl))
    refine ifNe c1 ⟨_, rfl, rfl, _, rfl, ?_⟩
    by_cases c2 : k = 2
    · exact ifEq c2 (rs _ _ (by rw [c2]; rfl))
    refine ifNe c2 ⟨_, rfl, rfl, _, rfl, ?_⟩
    by_cases c3 : k = 3
    · exact ifEq c3 (rs _ _ (by rw [c3]; rfl))
    refine ifNe c3 ⟨_, rfl, rfl, _, rfl, ?_⟩
    by_cases c4 : k = 4
    · exact ifEq c4 (rs _ _ (by rw [c4]; rfl))
    refine ifNe c4 ⟨_, rfl, rfl, _, rfl, ?_⟩
    by_cases c5 : k = 5
    · exact ifEq c5 (rs _ _ (by rw [c5]; rfl))
    refine ifNe c5 ⟨_, rfl, rfl, _, rfl, ?_⟩
    by_cases c6 : k = 6
    · exact ifEq c6 (rs _ _ (by rw [c6]; rfl))
    have c7 : k = 7 := by omega
    exact ifNe c6 (rs _ { nx := fun _ H' => Q .non H', rt := Q } (by rw [c7]; rfl))
  · exact h.elim
theorem pure__law_raise (vs : List V) (H : Hp) (Q : VK) (E : XK) (h : sp__law_raise K vs H Q E) : t__law_raise K (fun cls d _ H => E cls d H) H { nx := fun _ H' => Q .non H', rt := Q } (start N__law_raise vs) H := by
  unfold sp__law_raise at h
  split at h
  · rename_i k z
    obtain ⟨h0, h15, hE⟩ := h
    have rs : ∀ (x : Str) (D : Ends), nmAt k = x → tRsV (He.ga K x) (fun cls d _ H => E cls d H) H 1 D [some (.int k), some (.str z)] H := fun x D e => by
      subst e
      exact ⟨_, rfl, fun a na => ⟨na, hE⟩⟩
    refine ⟨_, rfl, _, _, rfl, rfl, _, rfl, ?_⟩
    by_cases c : k < 8
    · rw [decide_eq_true c]
      exact iteT ⟨_, rfl, _, rfl, h0, c, hE⟩
    rw [decide_eq_false c]
    refine iteF ⟨_, rfl, rfl, _, rfl, ?_⟩
    by_cases c0 : k = 8
    · exact ifEq c0 (rs _ _ (by rw [c0]; rfl))
    refine ifNe c0 ⟨_, rfl, rfl, _, rfl, ?_⟩
    by_cases c1 : k = 9
    · exact ifEq c1 (rs _ _ (by rw [c1]; rfl))
    refine ifNe c1 ⟨_, rfl, rfl, _, rfl, ?_⟩
    by_cases c2 : k = 10
    · exact ifEq c2 (rs _ _ (by rw [c2]; rfl))
    refine ifNe c2 ⟨_, rfl, rfl, _, rfl, ?_⟩
    by_cases c3 : k = 11
    · exact ifEq c3 (rs _ _ (by rw [c3]; rfl))
    refine ifNe c3 ⟨_, rfl, rfl, _, rfl, ?_⟩
    by_cases c4 : k = 12
    · exact ifEq c4 (rs _ _ (by rw [c4]; rfl))
    refine ifNe c4 ⟨_, rfl, rfl, _, rfl, ?_⟩
    by_cases c5 : k = 13
    · exact ifEq c5 (rs _ _ (by rw [c5]; rfl))
    have c7 : k = 14 := by omega
    exact ifNe c5 (rs _ { nx := fun _ H' => Q .non H', rt := Q } (by rw [c7]; rfl))
  · exact h.elim
theorem pure__law_raised (vs : List V) (H : Hp) (Q : VK) (E : XK) (h : sp__law_raised K vs H Q E) : t__law_raised K { nx := fun _ H' => Q .non H', rt := Q } (start N__law_raised vs) H := by
  unfold sp__law_raised at h
  split at h
  · rename_i k z
    obtain ⟨EK, h0, h15, q⟩ := h
    have hx := nmAt_mem h0 h15
    refine ⟨Nat.zero_le _, fun l0 n0 => ⟨_, rfl, _, rfl, h0, h15, true, EK.exm _ hx, fun _ a ha => ?_, fun z => nomatch z⟩⟩
    refine ⟨_, rfl, rfl, rfl, EK, nmAt k, hx, rfl, fun l H' hl s => ⟨_, rfl, q l H' hl ((same_new n0).trans s)⟩⟩
  · exact h.elim
theorem mk_same {H : Hp} {x dx C : Addr} (nx : H x = none) (nd : H dx = none) : Same H (upd (upd H dx (.own x)) x (.ins C dx [])) := fun b o e => by
  rw [upd_ne (ne_of_none e nx), upd_ne (ne_of_none e nd)]
  exact e
theorem pure__law_numbered (vs : List V) (H : Hp) (Q : VK) (E : XK) (h : sp__law_numbered K vs H Q E) : t__law_numbered K { nx := fun _ H' => Q .non H', rt := Q } (start N__law_numbered vs) H := by
  unfold sp__law_numbered at h
  split at h
  · rename_i v
    obtain ⟨EK, kn, hn, q⟩ := h
    have hx : ("NoName" : Str) ∈ errNames := by decide +kernel
    refine ⟨Nat.zero_le _, fun l0 n0 => ?_⟩
    have s0 := same_new (o := .lst []) n0
    intro p dx np nd ne
    refine ⟨dx, upd_same, fun d1 d2 H1 P f1 f2 k1 => ⟨rfl, ?_⟩⟩
    have s1 : Same H H1 := s0.trans (k1.drop (mk_same np nd) np)
    obtain ⟨dy, hp⟩ := P.ob
    refine ⟨p, dy, _, rfl, hp, rfl, _, rfl, d1, d2, _, P, by decide, by decide, kn.same s1, fun _ H2 s2 => ?_, fun x e z => ?_⟩
    · refine ⟨true, EK.exm _ hx, fun _ a ha => ?_, fun z => nomatch z⟩
      exact ⟨_, rfl, rfl, rfl, EK, _, hx, rfl, fun l H' hl s => ⟨_, rfl, q l H' hl ((s1.trans s2).trans s)⟩⟩
    · rw [hn] at z
      cases z
  · exact h.elim

/-! ### what is right -/
theorem rng15 {te : TE} {σ : L2.St} {H : Hp} {Q : VK} (f : Nat → Bool) (he : ∀ i, i < 15 → ∀ (H' : Hp) (R : VK), R (.bl (f i)) H' → te ((wipe σ [5]).set 5 (some (.int (0 + (i : Nat))))) H' R)
    (k : ∀ D, H D = none → Q (.ref D) (upd H D (.lst ((List.range 15).map fun i => V.bl (f i))))) : tLc (iRng1 (tCons (tC (.int 15)) tNil)) (gName 5) tYes te [5] σ H Q := by
  refine ⟨15, rfl, by decide, by decide, fun D hD => ?_⟩
  refine lc_range (g := gName 5) (vs := [5]) (lo := 0) (n := 15) (fun i H' => H' = upd H D (.lst ((List.range i).map fun i => V.bl (f i)))) rfl (fun i H' hi e => ?_) (fun H' e => by rw [e]; exact k D hD)
  subst e
  refine ⟨wipe1, he i hi _ _ ⟨_, upd_same, ?_, ?_⟩⟩
  · rw [List.length_map, List.length_range, sizeLine_eq]
    omega
  · rw [upd_upd, List.range_succ, List.map_append]
    rfl
theorem kinds_row {k : Nat} (h : k < 15) : kindsOf (errNames.getD k "") = (List.range 15).map fun i => V.bl (decide (V.int (k : Nat) = V.int (0 + (i : Nat)))) := by
  have e : ∀ k, k < 15 → (errNames.map fun y => decide (errNames.getD k "" = y)) = (List.range 15).map fun i => decide (k = i) := by decide +kernel
  have e1 := congrArg (List.map V.bl) (e k h)
  rw [List.map_map, List.map_map] at e1
  refine Eq.trans e1 (List.map_congr_left fun i _ => ?_)
  show V.bl (decide (k = i)) = _
  congr 1
  by_cases c : k = i
  · rw [decide_eq_true c, decide_eq_true (by rw [c]; simp)]
  · rw [decide_eq_false c, decide_eq_false fun z => c (by have := V.int.inj z; omega)]
theorem dp_bls {H : Hp} : ∀ l : List Bool, DpAll K H (l.map V.bl) (l.map PyData.bool)
  | [] => .nil
  | b :: r => .cons (.bl b) (dp_bls r)
theorem sh_bls (l : List Bool) : SeqAt.shaped (.list (l.map PyData.bool)) = true := (Dd.list (n := 0) fun d hd => by
  obtain ⟨b, _, rfl⟩ := List.mem_map.mp hd
  exact Dd.bool b).sh (by decide)
/-- two lists of the same truths are alike -/
theorem same_bls {H : Hp} {a b : Addr} {l : List Bool} (ha : H a = some (.lst (l.map V.bl))) (hb : H b = some (.lst (l.map V.bl))) :
    ∃ d e, Dp K H (.ref a) d ∧ Dp K H (.ref b) e ∧ SeqAt.shaped d = true ∧ SeqAt.shaped e = true ∧ PyData.eqv d e = true :=
  ⟨_, _, .lst (SqL.of ha) (dp_bls l), .lst (SqL.of hb) (dp_bls l), sh_bls l, sh_bls l, SeqAt.eqv_refl _ (SeqAt.canLay_of_shaped (sh_bls l))⟩
theorem ne_bls {H : Hp} {a b : Addr} {l : List Bool} {Q : VK} (ha : H a = some (.lst (l.map V.bl))) (hb : H b = some (.lst (l.map V.bl))) (q : Q (.bl false) H) : rNeD K (.ref a) (.ref b) H Q := by
  obtain ⟨d, e, h1, h2, h3, h4, h5⟩ := same_bls (K := K) ha hb
  exact ⟨d, e, h1, h2, h3, h4, by rw [h5]; exact q⟩
theorem eq_bls {H : Hp} {a b : Addr} {l : List Bool} {Q : VK} (ha : H a = some (.lst (l.map V.bl))) (hb : H b = some (.lst (l.map V.bl))) (q : Q (.bl true) H) : rEqD K (.ref a) (.ref b) H Q := by
  obtain ⟨d, e, h1, h2, h3, h4, h5⟩ := same_bls (K := K) ha hb
  exact ⟨d, e, h1, h2, h3, h4, by rw [h5]; exact q⟩
theorem kinds_bl (x : Str) : kindsOf x = (errNames.map fun y => decide (x = y)).map V.bl := by
  unfold kindsOf
  rw [List.map_map]
  rfl
theorem row_bl (f : Nat → Bool) : ((List.range 15).map fun i => V.bl (f i)) = ((List.range 15).map f).map V.bl := by
  rw [List.map_map]
  rfl
theorem zero_row : kindsOf "NoName" = (List.range 15).map fun i => V.bl (decide (V.int (0 + (i : Nat)) = V.int 0)) := by
  refine Eq.trans (kinds_row (k := 0) (by decide)) (List.map_congr_left fun i _ => ?_)
  congr 1
  by_cases c : i = 0
  · subst c
    rfl
  · rw [decide_eq_false fun z => c (by have := V.int.inj z; omega), decide_eq_false fun z => c (by have := V.int.inj z; omega)]
theorem pure__law_right (vs : List V) (H : Hp) (Q : VK) (E : XK) (h : sp__law_right K vs H Q E) : t__law_right K { nx := fun _ H' => Q .non H', rt := Q } (start N__law_right vs) H := by
  unfold sp__law_right at h
  split at h
  · rename_i p
    obtain ⟨EK, P0, q⟩ := h
    refine ⟨_, rfl, P0, fun z H1 P1 k1 => ⟨_, rfl, fun as l H2 er hl s2 => ?_⟩⟩
    refine ⟨l, _, rfl, SqL.of hl, ?_⟩
    refine for_enum (K := K) (a := l) (xs := as.map V.ref) (i1 := 2) (i2 := 3) (fun i σ H' => ∃ v2 v3, σ = [some (.ref p), some (.str z), v2, v3, none, none] ∧ Same H2 H') ⟨_, _, rfl, Same.refl H2⟩ (fun i σ H' _ ⟨_, _, _, s⟩ => SqL.of (s _ _ hl)) ?_ ?_
    · rintro i y σ H' T hi ⟨v2, v3, rfl, s⟩ nT
      rw [List.getElem?_map] at hi
      cases ea : as[i]? with
      | none => rw [ea] at hi; cases hi
      | some a =>
        rw [ea] at hi
        cases hi
        obtain ⟨i15, ha⟩ := er.at ea
        have i15 : i < 15 := i15
        have s3 : Same H2 (upd H' T (.tup [.int (i : Nat), .ref a])) := s.new nT
        have hx : errNames.getD i "" ∈ errNames := nmAt_mem (k := (i : Int)) (by omega) (by omega)
        refine ⟨_, rfl, EK, _, hx, s3 _ _ ha, fun l1 H4 h4 s4 => ?_⟩
        refine rng15 (fun j => decide (V.int (i : Nat) = V.int (0 + (j : Nat)))) (fun j hj H5 R r => ⟨_, rfl, _, rfl, rfl, r⟩) (fun D hD => ?_)
        have g1 := (same_new (o := .lst ((List.range 15).map fun j => V.bl (decide (V.int (i : Nat) = V.int (0 + (j : Nat)))))) hD) _ _ h4
        rw [kinds_row i15, row_bl] at g1
        refine ne_bls g1 (by rw [upd_same, row_bl]) ⟨_, rfl, iteF ?_⟩
        have s5 := (s3.trans s4).new (o := .lst ((List.range 15).map fun j => V.bl (decide (V.int (i : Nat) = V.int (0 + (j : Nat)))))) hD
        refine ⟨_, rfl, a, _, _, _, _, rfl, s5 _ _ ha, EK.exc _ hx, .own _, EK.kitH _ hx, _, rfl, iteF ⟨_, rfl, a, _, _, _, _, rfl, s5 _ _ ha, EK.exc _ hx, .ty "ValueError", EK.kitV _ hx, _, rfl, iteF ⟨_, _, rfl, s5⟩⟩⟩
    · rintro σ H3 ⟨v2, v3, rfl, s3⟩
      have P3 : PotAt H3 p := potSame P1 (s2.trans s3)
      have k3 : Keep [p] H H3 := k1.trans (.same (s2.trans s3))
      refine ⟨_, rfl, P3, by decide, by decide, fun d H4 d0 d15 P4 k4 => ?_⟩
      refine ⟨_, rfl, _, rfl, EK, d0, d15, fun l1 H5 h5 s5 => ?_⟩
      obtain ⟨n, rfl⟩ : ∃ n : Nat, d = (n : Int) := ⟨d.toNat, by omega⟩
      refine rng15 (fun j => decide (V.int (n : Nat) = V.int (0 + (j : Nat)))) (fun j hj H5 R r => ⟨_, rfl, _, rfl, rfl, r⟩) (fun D hD => ?_)
      have g1 := (same_new (o := .lst ((List.range 15).map fun j => V.bl (decide (V.int (n : Nat) = V.int (0 + (j : Nat)))))) hD) _ _ h5
      have en : nmAt (n : Int) = errNames.getD n "" := rfl
      rw [en, kinds_row (by omega), row_bl] at g1
      refine ne_bls g1 (by rw [upd_same, row_bl]) ⟨_, rfl, iteF ?_⟩
      have s6 := s5.new (o := .lst ((List.range 15).map fun j => V.bl (decide (V.int (n : Nat) = V.int (0 + (j : Nat)))))) hD
      have P6 := potSame P4 s6
      have k6 : Keep [p] H _ := (k3.trans k4).trans (.same s6)
      generalize upd H5 D (.lst ((List.range 15).map fun j => V.bl (decide (V.int (n : Nat) = V.int (0 + (j : Nat)))))) = H6 at s6 P6 k6 ⊢
      clear g1 hD
      refine ⟨(by show 1 ≤ sizeLine; decide), fun t nt => ⟨(by show 1 ≤ sizeLine; decide), fun w nw => ⟨(by show 9 ≤ sizeLine; decide), fun m nm => ?_⟩⟩⟩
      have P7 : PotAt (upd (upd (upd H6 t (.tup [V.str "ann"])) w (.lst [V.str "ann"])) m (.lst [V.str "", V.str "Ann", V.str "abcdefghi", V.str "a b", V.non, V.int 7, V.bl true, V.ref t, V.ref w])) p := potSame P6 (((same_new nt).new nw).new nm)
      refine ⟨_, rfl, P7, by decide, by decide, fun e H7 e0 e9 P8 k8 => ?_⟩
      have np := potNe P6 nt
      have hw : H7 w = some (.lst [V.str "ann"]) := k8.k _ _ ((same_new nm) _ _ upd_same) (by
        have := potNe (potSame P6 (same_new nt)) nw
        simp [this.symm])
      have ht : H7 t = some (.tup [V.str "ann"]) := k8.k _ _ ((same_new nm) _ _ ((same_new nw) _ _ upd_same)) (by simp [np.symm])
      have hm : H7 m = some (.lst [V.str "", V.str "Ann", V.str "abcdefghi", V.str "a b", V.non, V.int 7, V.bl true, V.ref t, V.ref w]) := k8.k _ _ upd_same (by
        have := potNe (potSame P6 ((same_new nt).new nw)) nm
        simp [this.symm])
      have tx : ∀ s : Str, s.length ≤ 100000 ∧ (∀ c ∈ s.cps.toList, c < 1114112) → Kn K H7 (V.str s) := fun s h => Kn.str ⟨h.1, h.2⟩
      obtain ⟨v, ev, kn, nn⟩ := menu (xs := [V.str "", V.str "Ann", V.str "abcdefghi", V.str "a b", V.non, V.int 7, V.bl true, V.ref t, V.ref w]) (n := 9) (d := e) (fun v => Kn K H7 v ∧ isNm v = false) rfl e0 e9 (by
        intro v hv
        simp only [List.mem_cons, List.not_mem_nil, or_false] at hv
        rcases hv with rfl | rfl | rfl | rfl | rfl | rfl | rfl | rfl | rfl
        · exact ⟨tx _ (by decide +kernel), by decide +kernel⟩
        · exact ⟨tx _ (by decide +kernel), by decide +kernel⟩
        · exact ⟨tx _ (by decide +kernel), by decide +kernel⟩
        · exact ⟨tx _ (by decide +kernel), by decide +kernel⟩
        · exact ⟨.non, rfl⟩
        · exact ⟨.int 7, rfl⟩
        · exact ⟨.bl true, rfl⟩
        · exact ⟨.tup ht, rfl⟩
        · exact ⟨.lst hw, rfl⟩)
      refine ⟨m, _, _, _, rfl, rfl, SqL.of hm, ev, ?_⟩
      refine ⟨_, rfl, EK, kn, nn, fun l2 H8 h8 s8 => ?_⟩
      refine rng15 (fun j => decide (V.int (0 + (j : Nat)) = V.int 0)) (fun j hj H5 R r => ⟨_, rfl, rfl, r⟩) (fun D hD => ?_)
      have g1 := (same_new (o := .lst ((List.range 15).map fun j => V.bl (decide (V.int (0 + (j : Nat)) = V.int 0)))) hD) _ _ h8
      rw [zero_row, row_bl] at g1
      refine eq_bls g1 (by rw [upd_same, row_bl]) (q _ ?_)
      exact ((k6.trans (.same (((same_new nt).new nw).new nm))).trans k8).trans (.same (s8.new hD))
  · exact h.elim
theorem pure_law (vs : List V) (H : Hp) (Q : VK) (E : XK) (h : sp_law K vs H Q E) : t_law K { nx := fun _ H' => Q .non H', rt := Q } (start N_law vs) H := by
  unfold sp_law at h
  split at h
  · rename_i a
    obtain ⟨EK, ms, hS, hlen, k⟩ := h
    have hb : ∀ m : Int, m = (if (if ((ms.map V.int).length : Int) < 8 then ((ms.map V.int).length : Int) else 8) > 1 then (if ((ms.map V.int).length : Int) < 8 then ((ms.map V.int).length : Int) else 8) else 1) → 0 ≤ m ∧ m ≤ 8 := fun m e => by
      rw [e]
      split <;> split <;> omega
    refine ⟨_, rfl, a, _, rfl, .inl hS, _, _, rfl, _, _, rfl, _, rfl, ?_⟩
    have b := hb _ rfl
    generalize (if (if ((ms.map V.int).length : Int) < 8 then ((ms.map V.int).length : Int) else 8) > 1 then (if ((ms.map V.int).length : Int) < 8 then ((ms.map V.int).length : Int) else 8) else 1) = m at b ⊢
    refine ⟨by omega, by omega, ?_⟩
    refine for_range (lo := 0) (n := m.toNat) (fun i σ H' => ∃ v1, σ = [some (.ref a), v1] ∧ Same H H') ⟨_, rfl, Same.refl H⟩ ?_ ?_
    · rintro i σ H1 hi ⟨v1, rfl, s1⟩
      refine ⟨_, rfl, _, rfl, by omega, by omega, ms, s1.seq hS, fun p H2 np P2 s2 => ?_⟩
      refine ⟨EK, P2, fun H3 k3 => ⟨_, rfl, iteF ⟨_, rfl, ?_⟩⟩⟩
      exact s1.trans (k3.drop s2 np)
    · rintro σ H1 ⟨v1, rfl, s1⟩
      exact k H1
  · exact h.elim
theorem law_asks (K : PySem.W.Frag) (EK : ErrK K) (H : Hp) (a : Addr) (ns : List Int) (hl : ns.length ≤ 63) (hO : Only H) (hS : SqL K H a (ns.map V.int)) : sp_law K [.ref a] H (fun v _ => v = .bl true) (fun _ _ _ => False) := ⟨EK, ns, hS, hl, fun _ => rfl⟩
end G16

set_option Elab.async false
set_option linter.all false
set_option maxRecDepth 100000
set_option maxHeartbeats 4000000

namespace G16
open PySem PySem.Spec PyProof.Rows L2 U G
def top (i : Nat) : Stmt := PySem.Challenge.pw_forgethall_k16_refusals_made.main.body.getD i (.Pass ⟨0, 0, 0, 0⟩)
abbrev s__law_pot : Stmt := top 24
abbrev M__law_pot : List Str := ["_law_script", "_law_k", "_law_cell"]
theorem sc__law_pot : FnScope M__law_pot ["_law_script", "_law_k"] (defScope s__law_pot) := ⟨rfl, rfl, rfl, by decide +kernel, rfl, by decide +kernel, by decide +kernel⟩
abbrev s__law_draw : Stmt := top 25
abbrev M__law_draw : List Str := ["_law_pot_here", "_law_many", "_law_digit"]
theorem sc__law_draw : FnScope M__law_draw ["_law_pot_here", "_law_many"] (defScope s__law_draw) := ⟨rfl, rfl, rfl, by decide +kernel, rfl, by decide +kernel, by decide +kernel⟩
abbrev s__law_kinds : Stmt := top 27
abbrev M__law_kinds : List Str := ["_law_e", "_law_kinds_here"]
theorem sc__law_kinds : FnScope M__law_kinds ["_law_e"] (defScope s__law_kinds) := ⟨rfl, rfl, rfl, by decide +kernel, rfl, by decide +kernel, by decide +kernel⟩
abbrev s__law_made : Stmt := top 28
abbrev M__law_made : List Str := ["_law_text_here", "_law_made_here"]
theorem sc__law_made : FnScope M__law_made ["_law_text_here"] (defScope s__law_made) := ⟨rfl, rfl, rfl, by decide +kernel, rfl, by decide +kernel, by decide +kernel⟩
abbrev s_is_name : Stmt := top 21
abbrev M_is_name : List Str := ["thing", "letter"]
theorem sc_is_name : FnScope M_is_name ["thing"] (defScope s_is_name) := ⟨rfl, rfl, rfl, by decide +kernel, rfl, by decide +kernel, by decide +kernel⟩
abbrev s_People_number_of : Stmt := inClass (top 22) 1
abbrev M_People_number_of : List Str := ["self", "name"]
theorem sc_People_number_of : FnScope M_People_number_of ["self", "name"] (defScope s_People_number_of) := ⟨rfl, rfl, rfl, by decide +kernel, rfl, by decide +kernel, by decide +kernel⟩
abbrev s_People___init__ : Stmt := inClass (top 22) 0
abbrev M_People___init__ : List Str := ["self"]
theorem sc_People___init__ : FnScope M_People___init__ ["self"] (defScope s_People___init__) := ⟨rfl, rfl, rfl, by decide +kernel, rfl, by decide +kernel, by decide +kernel⟩
abbrev s__law_numbered : Stmt := top 32
abbrev M__law_numbered : List Str := ["_law_thing", "_law_found", "_law_e"]
theorem sc__law_numbered : FnScope M__law_numbered ["_law_thing"] (defScope s__law_numbered) := ⟨rfl, rfl, rfl, by decide +kernel, rfl, by decide +kernel, by decide +kernel⟩
abbrev s__law_raise_some : Stmt := top 29
abbrev M__law_raise_some : List Str := ["_law_k", "_law_text_here"]
theorem sc__law_raise_some : FnScope M__law_raise_some ["_law_k", "_law_text_here"] (defScope s__law_raise_some) := ⟨rfl, rfl, rfl, by decide +kernel, rfl, by decide +kernel, by decide +kernel⟩
abbrev s__law_raise : Stmt := top 30
abbrev M__law_raise : List Str := ["_law_k", "_law_text_here"]
theorem sc__law_raise : FnScope M__law_raise ["_law_k", "_law_text_here"] (defScope s__law_raise) := ⟨rfl, rfl, rfl, by decide +kernel, rfl, by decide +kernel, by decide +kernel⟩
abbrev s__law_raised : Stmt := top 31
abbrev M__law_raised : List Str := ["_law_k", "_law_text_here", "_law_found", "_law_e"]
theorem sc__law_raised : FnScope M__law_raised ["_law_k", "_law_text_here"] (defScope s__law_raised) := ⟨rfl, rfl, rfl, by decide +kernel, rfl, by decide +kernel, by decide +kernel⟩
abbrev s__law_text : Stmt := top 26
abbrev M__law_text : List Str := ["_law_pot_here", "_law_signs", "_law_k"]
theorem sc__law_text : FnScope M__law_text ["_law_pot_here"] (defScope s__law_text) := ⟨rfl, rfl, rfl, by decide +kernel, rfl, by decide +kernel, by decide +kernel⟩
abbrev s__law_right : Stmt := top 33
abbrev M__law_right : List Str := ["_law_pot_here", "_law_text_here", "_law_k", "_law_e", "_law_thing", "_law_at"]
theorem sc__law_right : FnScope M__law_right ["_law_pot_here"] (defScope s__law_right) := ⟨rfl, rfl, rfl, by decide +kernel, rfl, by decide +kernel, by decide +kernel⟩
abbrev s_law : Stmt := top 34
abbrev M_law : List Str := ["_law_script", "_law_k"]
theorem sc_law : FnScope M_law ["_law_script"] (defScope s_law) := ⟨rfl, rfl, rfl, by decide +kernel, rfl, by decide +kernel, by decide +kernel⟩
def df__law_pot : He.DefD := ⟨("_law_pot", none), "_law_pot", "_law_pot", defArgs s__law_pot, defBody s__law_pot, defScope s__law_pot, [], []⟩
def df__law_draw : He.DefD := ⟨("_law_draw", none), "_law_draw", "_law_draw", defArgs s__law_draw, defBody s__law_draw, defScope s__law_draw, [], []⟩
def df__law_kinds : He.DefD := ⟨("_law_kinds", none), "_law_kinds", "_law_kinds", defArgs s__law_kinds, defBody s__law_kinds, defScope s__law_kinds, [], []⟩
def df__law_made : He.DefD := ⟨("_law_made", none), "_law_made", "_law_made", defArgs s__law_made, defBody s__law_made, defScope s__law_made, [], []⟩
def df_is_name : He.DefD := ⟨("is_name", none), "is_name", "is_name", defArgs s_is_name, defBody s_is_name, defScope s_is_name, [], []⟩
def df__law_numbered : He.DefD := ⟨("_law_numbered", none), "_law_numbered", "_law_numbered", defArgs s__law_numbered, defBody s__law_numbered, defScope s__law_numbered, [], []⟩
def df__law_raise_some : He.DefD := ⟨("_law_raise_some", none), "_law_raise_some", "_law_raise_some", defArgs s__law_raise_some, defBody s__law_raise_some, defScope s__law_raise_some, [], []⟩
def df__law_raise : He.DefD := ⟨("_law_raise", none), "_law_raise", "_law_raise", defArgs s__law_raise, defBody s__law_raise, defScope s__law_raise, [], []⟩
def df__law_raised : He.DefD := ⟨("_law_raised", none), "_law_raised", "_law_raised", defArgs s__law_raised, defBody s__law_raised, defScope s__law_raised, [], []⟩
def df__law_text : He.DefD := ⟨("_law_text", none), "_law_text", "_law_text", defArgs s__law_text, defBody s__law_text, defScope s__law_text, [], []⟩
def df__law_right : He.DefD := ⟨("_law_right", none), "_law_right", "_law_right", defArgs s__law_right, defBody s__law_right, defScope s__law_right, [], []⟩
def df_law : He.DefD := ⟨("law", none), "law", "law", defArgs s_law, defBody s_law, defScope s_law, [], []⟩
def df_People___init__ : He.DefD := ⟨("People", some "__init__"), "__init__", "People.__init__", defArgs s_People___init__, defBody s_People___init__, defScope s_People___init__, [], []⟩
def df_People_number_of : He.DefD := ⟨("People", some "number_of"), "number_of", "People.number_of", defArgs s_People_number_of, defBody s_People_number_of, defScope s_People_number_of, [], []⟩
def fa : List He.Fa := [.free "len", .free "min", .free "max", .free "range", .free "abs", .free "enumerate", .free "isinstance", .glo "HallError", .free "ValueError", .free "divmod", .glo "NoName", .glo "BadKind", .glo "NoText", .glo "NoPerson", .glo "Taken", .glo "NoKind", .glo "NoMatter", .glo "NoThing", .glo "NoWay", .glo "NoRows", .glo "NoDay", .glo "NoHold", .glo "NoTelling", .glo "NoAnswer", .glo "Answered", .exc "NoName", .exc "BadKind", .exc "NoText", .exc "NoPerson", .exc "Taken", .exc "NoKind", .exc "NoMatter", .exc "NoThing", .exc "NoWay", .exc "NoRows", .exc "NoDay", .exc "NoHold", .exc "NoTelling", .exc "NoAnswer", .exc "Answered", .cls "People", .noat "People" "by_name", .noat "People" "many", .noat "People" "by_number", .free "str", .int "MOST_LETTERS" 8, .str "LETTERS" "abcdefghijklmnopqrstuvwxyz", .free "all", .glo "_law_pot", .glo "_law_draw", .glo "_law_kinds", .glo "_law_made", .glo "is_name", .glo "_law_numbered", .glo "_law_raise_some", .glo "_law_raise", .glo "_law_raised", .glo "_law_text", .glo "_law_right", .glo "law", .glo "People", .mkr "People", .meth "People" "number_of"]
def fn : List He.DefD := [df__law_pot, df__law_draw, df__law_kinds, df__law_made, df_is_name, df__law_numbered, df__law_raise_some, df__law_raise, df__law_raised, df__law_text, df__law_right, df_law, df_People___init__, df_People_number_of]
def ex : PySem.W.Frag → Bool := errB
structure Txt (w : World) (K : PySem.W.Frag) (mg : Str → Option Value) : Prop where
  ex : ∃ h : Heap, K.In h ∧ h.Ns mainGlobals mg ∧ He.SaysX fa fn [] [] ex w h K
section
variable {P : Program} {w : World} {K : PySem.W.Frag} {mg : Str → Option Value} {base : Heap}
theorem Txt.b_len (T : Txt w K mg) : mg "len" = none := by
  obtain ⟨h, X, G, c⟩ := T.ex
  exact He.free_ok X G (c.t.d.fact 0 (f := .free "len") rfl)
theorem Txt.b_min (T : Txt w K mg) : mg "min" = none := by
  obtain ⟨h, X, G, c⟩ := T.ex
  exact He.free_ok X G (c.t.d.fact 1 (f := .free "min") rfl)
theorem Txt.b_max (T : Txt w K mg) : mg "max" = none := by
  obtain ⟨h, X, G, c⟩ := T.ex
  exact He.free_ok X G (c.t.d.fact 2 (f := .free "max") rfl)
theorem Txt.b_range (T : Txt w K mg) : mg "range" = none := by
  obtain ⟨h, X, G, c⟩ := T.ex
  exact He.free_ok X G (c.t.d.fact 3 (f := .free "range") rfl)
theorem Txt.b_abs (T : Txt w K mg) : mg "abs" = none := by
  obtain ⟨h, X, G, c⟩ := T.ex
  exact He.free_ok X G (c.t.d.fact 4 (f := .free "abs") rfl)
theorem Txt.b_enumerate (T : Txt w K mg) : mg "enumerate" = none := by
  obtain ⟨h, X, G, c⟩ := T.ex
  exact He.free_ok X G (c.t.d.fact 5 (f := .free "enumerate") rfl)
theorem Txt.b_isinstance (T : Txt w K mg) : mg "isinstance" = none := by
  obtain ⟨h, X, G, c⟩ := T.ex
  exact He.free_ok X G (c.t.d.fact 6 (f := .free "isinstance") rfl)
theorem Txt.g_HallError (T : Txt w K mg) : mg "HallError" = some (.ref (He.ga K "HallError")) := by
  obtain ⟨h, X, G, c⟩ := T.ex
  exact He.glo_ok X G (c.t.d.fact 7 (f := .glo "HallError") rfl)
theorem Txt.b_ValueError (T : Txt w K mg) : mg "ValueError" = none := by
  obtain ⟨h, X, G, c⟩ := T.ex
  exact He.free_ok X G (c.t.d.fact 8 (f := .free "ValueError") rfl)
theorem Txt.b_divmod (T : Txt w K mg) : mg "divmod" = none := by
  obtain ⟨h, X, G, c⟩ := T.ex
  exact He.free_ok X G (c.t.d.fact 9 (f := .free "divmod") rfl)
theorem Txt.g_NoName (T : Txt w K mg) : mg "NoName" = some (.ref (He.ga K "NoName")) := by
  obtain ⟨h, X, G, c⟩ := T.ex
  exact He.glo_ok X G (c.t.d.fact 10 (f := .glo "NoName") rfl)
theorem Txt.g_BadKind (T : Txt w K mg) : mg "BadKind" = some (.ref (He.ga K "BadKind")) := by
  obtain ⟨h, X, G, c⟩ := T.ex
  exact He.glo_ok X G (c.t.d.fact 11 (f := .glo "BadKind") rfl)
theorem Txt.g_NoText (T : Txt w K mg) : mg "NoText" = some (.ref (He.ga K "NoText")) := by
  obtain ⟨h, X, G, c⟩ := T.ex
  exact He.glo_ok X G (c.t.d.fact 12 (f := .glo "NoText") rfl)
theorem Txt.g_NoPerson (T : Txt w K mg) : mg "NoPerson" = some (.ref (He.ga K "NoPerson")) := by
  obtain ⟨h, X, G, c⟩ := T.ex
  exact He.glo_ok X G (c.t.d.fact 13 (f := .glo "NoPerson") rfl)
theorem Txt.g_Taken (T : Txt w K mg) : mg "Taken" = some (.ref (He.ga K "Taken")) := by
  obtain ⟨h, X, G, c⟩ := T.ex
  exact He.glo_ok X G (c.t.d.fact 14 (f := .glo "Taken") rfl)
theorem Txt.g_NoKind (T : Txt w K mg) : mg "NoKind" = some (.ref (He.ga K "NoKind")) := by
  obtain ⟨h, X, G, c⟩ := T.ex
  exact He.glo_ok X G (c.t.d.fact 15 (f := .glo "NoKind") rfl)
theorem Txt.g_NoMatter (T : Txt w K mg) : mg "NoMatter" = some (.ref (He.ga K "NoMatter")) := by
  obtain ⟨h, X, G, c⟩ := T.ex
  exact He.glo_ok X G (c.t.d.fact 16 (f := .glo "NoMatter") rfl)
theorem Txt.g_NoThing (T : Txt w K mg) : mg "NoThing" = some (.ref (He.ga K "NoThing")) := by
  obtain ⟨h, X, G, c⟩ := T.ex
  exact He.glo_ok X G (c.t.d.fact 17 (f := .glo "NoThing") rfl)
theorem Txt.g_NoWay (T : Txt w K mg) : mg "NoWay" = some (.ref (He.ga K "NoWay")) := by
  obtain ⟨h, X, G, c⟩ := T.ex
  exact He.glo_ok X G (c.t.d.fact 18 (f := .glo "NoWay") rfl)
theorem Txt.g_NoRows (T : Txt w K mg) : mg "NoRows" = some (.ref (He.ga K "NoRows")) := by
  obtain ⟨h, X, G, c⟩ := T.ex
  exact He.glo_ok X G (c.t.d.fact 19 (f := .glo "NoRows") rfl)
theorem Txt.g_NoDay (T : Txt w K mg) : mg "NoDay" = some (.ref (He.ga K "NoDay")) := by
  obtain ⟨h, X, G, c⟩ := T.ex
  exact He.glo_ok X G (c.t.d.fact 20 (f := .glo "NoDay") rfl)
theorem Txt.g_NoHold (T : Txt w K mg) : mg "NoHold" = some (.ref (He.ga K "NoHold")) := by
  obtain ⟨h, X, G, c⟩ := T.ex
  exact He.glo_ok X G (c.t.d.fact 21 (f := .glo "NoHold") rfl)
theorem Txt.g_NoTelling (T : Txt w K mg) : mg "NoTelling" = some (.ref (He.ga K "NoTelling")) := by
  obtain ⟨h, X, G, c⟩ := T.ex
  exact He.glo_ok X G (c.t.d.fact 22 (f := .glo "NoTelling") rfl)
theorem Txt.g_NoAnswer (T : Txt w K mg) : mg "NoAnswer" = some (.ref (He.ga K "NoAnswer")) := by
  obtain ⟨h, X, G, c⟩ := T.ex
  exact He.glo_ok X G (c.t.d.fact 23 (f := .glo "NoAnswer") rfl)
theorem Txt.g_Answered (T : Txt w K mg) : mg "Answered" = some (.ref (He.ga K "Answered")) := by
  obtain ⟨h, X, G, c⟩ := T.ex
  exact He.glo_ok X G (c.t.d.fact 24 (f := .glo "Answered") rfl)
theorem Txt.e_NoName (T : Txt w K mg) : ErrC K (He.ga K "NoName") := by
  obtain ⟨h, X, G, c⟩ := T.ex
  exact (fun z => ⟨z.1, z.2.1, z.2.2.1, z.2.2.2⟩ : _ → ErrC K (He.ga K "NoName")) (He.exc_ok (c.t.d.fact 25 (f := .exc "NoName") rfl))
theorem Txt.e_BadKind (T : Txt w K mg) : ErrC K (He.ga K "BadKind") := by
  obtain ⟨h, X, G, c⟩ := T.ex
  exact (fun z => ⟨z.1, z.2.1, z.2.2.1, z.2.2.2⟩ : _ → ErrC K (He.ga K "BadKind")) (He.exc_ok (c.t.d.fact 26 (f := .exc "BadKind") rfl))
theorem Txt.e_NoText (T : Txt w K mg) : ErrC K (He.ga K "NoText") := by
  obtain ⟨h, X, G, c⟩ := T.ex
  exact (fun z => ⟨z.1, z.2.1, z.2.2.1, z.2.2.2⟩ : _ → ErrC K (He.ga K "NoText")) (He.exc_ok (c.t.d.fact 27 (f := .exc "NoText") rfl))
theorem Txt.e_NoPerson (T : Txt w K mg) : ErrC K (He.ga K "NoPerson") := by
  obtain ⟨h, X, G, c⟩ := T.ex
  exact (fun z => ⟨z.1, z.2.1, z.2.2.1, z.2.2.2⟩ : _ → ErrC K (He.ga K "NoPerson")) (He.exc_ok (c.t.d.fact 28 (f := .exc "NoPerson") rfl))
theorem Txt.e_Taken (T : Txt w K mg) : ErrC K (He.ga K "Taken") := by
  obtain ⟨h, X, G, c⟩ := T.ex
  exact (fun z => ⟨z.1, z.2.1, z.2.2.1, z.2.2.2⟩ : _ → ErrC K (He.ga K "Taken")) (He.exc_ok (c.t.d.fact 29 (f := .exc "Taken") rfl))
theorem Txt.e_NoKind (T : Txt w K mg) : ErrC K (He.ga K "NoKind") := by
  obtain ⟨h, X, G, c⟩ := T.ex
  exact (fun z => ⟨z.1, z.2.1, z.2.2.1, z.2.2.2⟩ : _ → ErrC K (He.ga K "NoKind")) (He.exc_ok (c.t.d.fact 30 (f := .exc "NoKind") rfl))
theorem Txt.e_NoMatter (T : Txt w K mg) : ErrC K (He.ga K "NoMatter") := by
  obtain ⟨h, X, G, c⟩ := T.ex
  exact (fun z => ⟨z.1, z.2.1, z.2.2.1, z.2.2.2⟩ : _ → ErrC K (He.ga K "NoMatter")) (He.exc_ok (c.t.d.fact 31 (f := .exc "NoMatter") rfl))
theorem Txt.e_NoThing (T : Txt w K mg) : ErrC K (He.ga K "NoThing") := by
  obtain ⟨h, X, G, c⟩ := T.ex
  exact (fun z => ⟨z.1, z.2.1, z.2.2.1, z.2.2.2⟩ : _ → ErrC K (He.ga K "NoThing")) (He.exc_ok (c.t.d.fact 32 (f := .exc "NoThing") rfl))
theorem Txt.e_NoWay (T : Txt w K mg) : ErrC K (He.ga K "NoWay") := by
  obtain ⟨h, X, G, c⟩ := T.ex
  exact (fun z => ⟨z.1, z.2.1, z.2.2.1, z.2.2.2⟩ : _ → ErrC K (He.ga K "NoWay")) (He.exc_ok (c.t.d.fact 33 (f := .exc "NoWay") rfl))
theorem Txt.e_NoRows (T : Txt w K mg) : ErrC K (He.ga K "NoRows") := by
  obtain ⟨h, X, G, c⟩ := T.ex
  exact (fun z => ⟨z.1, z.2.1, z.2.2.1, z.2.2.2⟩ : _ → ErrC K (He.ga K "NoRows")) (He.exc_ok (c.t.d.fact 34 (f := .exc "NoRows") rfl))
theorem Txt.e_NoDay (T : Txt w K mg) : ErrC K (He.ga K "NoDay") := by
  obtain ⟨h, X, G, c⟩ := T.ex
  exact (fun z => ⟨z.1, z.2.1, z.2.2.1, z.2.2.2⟩ : _ → ErrC K (He.ga K "NoDay")) (He.exc_ok (c.t.d.fact 35 (f := .exc "NoDay") rfl))
theorem Txt.e_NoHold (T : Txt w K mg) : ErrC K (He.ga K "NoHold") := by
  obtain ⟨h, X, G, c⟩ := T.ex
  exact (fun z => ⟨z.1, z.2.1, z.2.2.1, z.2.2.2⟩ : _ → ErrC K (He.ga K "NoHold")) (He.exc_ok (c.t.d.fact 36 (f := .exc "NoHold") rfl))
theorem Txt.e_NoTelling (T : Txt w K mg) : ErrC K (He.ga K "NoTelling") := by
  obtain ⟨h, X, G, c⟩ := T.ex
  exact (fun z => ⟨z.1, z.2.1, z.2.2.1, z.2.2.2⟩ : _ → ErrC K (He.ga K "NoTelling")) (He.exc_ok (c.t.d.fact 37 (f := .exc "NoTelling") rfl))
theorem Txt.e_NoAnswer (T : Txt w K mg) : ErrC K (He.ga K "NoAnswer") := by
  obtain ⟨h, X, G, c⟩ := T.ex
  exact (fun z => ⟨z.1, z.2.1, z.2.2.1, z.2.2.2⟩ : _ → ErrC K (He.ga K "NoAnswer")) (He.exc_ok (c.t.d.fact 38 (f := .exc "NoAnswer") rfl))
theorem Txt.e_Answered (T : Txt w K mg) : ErrC K (He.ga K "Answered") := by
  obtain ⟨h, X, G, c⟩ := T.ex
  exact (fun z => ⟨z.1, z.2.1, z.2.2.1, z.2.2.2⟩ : _ → ErrC K (He.ga K "Answered")) (He.exc_ok (c.t.d.fact 39 (f := .exc "Answered") rfl))
theorem Txt.cl_People (T : Txt w K mg) : Cls K (He.ga K "People") := by
  obtain ⟨h, X, G, c⟩ := T.ex
  exact He.cls_ok (c.t.d.fact 40 (f := .cls "People") rfl)
theorem Txt.n_People_by_name (T : Txt w K mg) : NoAttr K (He.ga K "People") "by_name" := by
  obtain ⟨h, X, G, c⟩ := T.ex
  exact He.noat_ok (c.t.d.fact 41 (f := .noat "People" "by_name") rfl)
theorem Txt.n_People_many (T : Txt w K mg) : NoAttr K (He.ga K "People") "many" := by
  obtain ⟨h, X, G, c⟩ := T.ex
  exact He.noat_ok (c.t.d.fact 42 (f := .noat "People" "many") rfl)
theorem Txt.n_People_by_number (T : Txt w K mg) : NoAttr K (He.ga K "People") "by_number" := by
  obtain ⟨h, X, G, c⟩ := T.ex
  exact He.noat_ok (c.t.d.fact 43 (f := .noat "People" "by_number") rfl)
theorem Txt.b_str (T : Txt w K mg) : mg "str" = none := by
  obtain ⟨h, X, G, c⟩ := T.ex
  exact He.free_ok X G (c.t.d.fact 44 (f := .free "str") rfl)
theorem Txt.v_MOST_LETTERS (T : Txt w K mg) : ∃ t, mg "MOST_LETTERS" = some (.int 8 t) := by
  obtain ⟨h, X, G, c⟩ := T.ex
  exact He.int_ok X G (c.t.d.fact 45 (f := .int "MOST_LETTERS" 8) rfl)
theorem Txt.v_LETTERS (T : Txt w K mg) : ∃ t, mg "LETTERS" = some (.str "abcdefghijklmnopqrstuvwxyz" t) := by
  obtain ⟨h, X, G, c⟩ := T.ex
  exact He.str_ok X G (c.t.d.fact 46 (f := .str "LETTERS" "abcdefghijklmnopqrstuvwxyz") rfl)
theorem Txt.b_all (T : Txt w K mg) : mg "all" = none := by
  obtain ⟨h, X, G, c⟩ := T.ex
  exact He.free_ok X G (c.t.d.fact 47 (f := .free "all") rfl)
theorem Txt.g__law_pot (T : Txt w K mg) : mg "_law_pot" = some (.ref (He.ga K "_law_pot")) := by
  obtain ⟨h, X, G, c⟩ := T.ex
  exact He.glo_ok X G (c.t.d.fact 48 (f := .glo "_law_pot") rfl)
theorem Txt.g__law_draw (T : Txt w K mg) : mg "_law_draw" = some (.ref (He.ga K "_law_draw")) := by
  obtain ⟨h, X, G, c⟩ := T.ex
  exact He.glo_ok X G (c.t.d.fact 49 (f := .glo "_law_draw") rfl)
theorem Txt.g__law_kinds (T : Txt w K mg) : mg "_law_kinds" = some (.ref (He.ga K "_law_kinds")) := by
  obtain ⟨h, X, G, c⟩ := T.ex
  exact He.glo_ok X G (c.t.d.fact 50 (f := .glo "_law_kinds") rfl)
theorem Txt.g__law_made (T : Txt w K mg) : mg "_law_made" = some (.ref (He.ga K "_law_made")) := by
  obtain ⟨h, X, G, c⟩ := T.ex
  exact He.glo_ok X G (c.t.d.fact 51 (f := .glo "_law_made") rfl)
theorem Txt.g_is_name (T : Txt w K mg) : mg "is_name" = some (.ref (He.ga K "is_name")) := by
  obtain ⟨h, X, G, c⟩ := T.ex
  exact He.glo_ok X G (c.t.d.fact 52 (f := .glo "is_name") rfl)
theorem Txt.g__law_numbered (T : Txt w K mg) : mg "_law_numbered" = some (.ref (He.ga K "_law_numbered")) := by
  obtain ⟨h, X, G, c⟩ := T.ex
  exact He.glo_ok X G (c.t.d.fact 53 (f := .glo "_law_numbered") rfl)
theorem Txt.g__law_raise_some (T : Txt w K mg) : mg "_law_raise_some" = some (.ref (He.ga K "_law_raise_some")) := by
  obtain ⟨h, X, G, c⟩ := T.ex
  exact He.glo_ok X G (c.t.d.fact 54 (f := .glo "_law_raise_some") rfl)
theorem Txt.g__law_raise (T : Txt w K mg) : mg "_law_raise" = some (.ref (He.ga K "_law_raise")) := by
  obtain ⟨h, X, G, c⟩ := T.ex
  exact He.glo_ok X G (c.t.d.fact 55 (f := .glo "_law_raise") rfl)
theorem Txt.g__law_raised (T : Txt w K mg) : mg "_law_raised" = some (.ref (He.ga K "_law_raised")) := by
  obtain ⟨h, X, G, c⟩ := T.ex
  exact He.glo_ok X G (c.t.d.fact 56 (f := .glo "_law_raised") rfl)
theorem Txt.g__law_text (T : Txt w K mg) : mg "_law_text" = some (.ref (He.ga K "_law_text")) := by
  obtain ⟨h, X, G, c⟩ := T.ex
  exact He.glo_ok X G (c.t.d.fact 57 (f := .glo "_law_text") rfl)
theorem Txt.g__law_right (T : Txt w K mg) : mg "_law_right" = some (.ref (He.ga K "_law_right")) := by
  obtain ⟨h, X, G, c⟩ := T.ex
  exact He.glo_ok X G (c.t.d.fact 58 (f := .glo "_law_right") rfl)
theorem Txt.g_law (T : Txt w K mg) : mg "law" = some (.ref (He.ga K "law")) := by
  obtain ⟨h, X, G, c⟩ := T.ex
  exact He.glo_ok X G (c.t.d.fact 59 (f := .glo "law") rfl)
theorem Txt.g_People (T : Txt w K mg) : mg "People" = some (.ref (He.ga K "People")) := by
  obtain ⟨h, X, G, c⟩ := T.ex
  exact He.glo_ok X G (c.t.d.fact 60 (f := .glo "People") rfl)
theorem Txt.mk_People (T : Txt w K mg) : Mk K (He.ga K "People") (He.ma K (He.ga K "People") "__init__") := by
  obtain ⟨h, X, G, c⟩ := T.ex
  exact He.mkr_ok (c.t.d.fact 61 (f := .mkr "People") rfl)
theorem Txt.m_People_number_of (T : Txt w K mg) : Meth K (He.ga K "People") "number_of" (He.ma K (He.ga K "People") "number_of") := by
  obtain ⟨h, X, G, c⟩ := T.ex
  exact He.meth_ok (c.t.d.fact 62 (f := .meth "People" "number_of") rfl)
theorem Txt.dd__law_pot (T : Txt w K mg) : ∃ fd, FunD K "_law_pot" "_law_pot" (defArgs s__law_pot) (defBody s__law_pot) (defScope s__law_pot) [] [] (He.fAd K ("_law_pot", none)) fd := by
  obtain ⟨h, X, G, c⟩ := T.ex
  exact c.t.d.def_ 0 (d := df__law_pot) rfl
theorem Txt.dd__law_draw (T : Txt w K mg) : ∃ fd, FunD K "_law_draw" "_law_draw" (defArgs s__law_draw) (defBody s__law_draw) (defScope s__law_draw) [] [] (He.fAd K ("_law_draw", none)) fd := by
  obtain ⟨h, X, G, c⟩ := T.ex
  exact c.t.d.def_ 1 (d := df__law_draw) rfl
theorem Txt.dd__law_kinds (T : Txt w K mg) : ∃ fd, FunD K "_law_kinds" "_law_kinds" (defArgs s__law_kinds) (defBody s__law_kinds) (defScope s__law_kinds) [] [] (He.fAd K ("_law_kinds", none)) fd := by
  obtain ⟨h, X, G, c⟩ := T.ex
  exact c.t.d.def_ 2 (d := df__law_kinds) rfl
theorem Txt.dd__law_made (T : Txt w K mg) : ∃ fd, FunD K "_law_made" "_law_made" (defArgs s__law_made) (defBody s__law_made) (defScope s__law_made) [] [] (He.fAd K ("_law_made", none)) fd := by
  obtain ⟨h, X, G, c⟩ := T.ex
  exact c.t.d.def_ 3 (d := df__law_made) rfl
theorem Txt.dd_is_name (T : Txt w K mg) : ∃ fd, FunD K "is_name" "is_name" (defArgs s_is_name) (defBody s_is_name) (defScope s_is_name) [] [] (He.fAd K ("is_name", none)) fd := by
  obtain ⟨h, X, G, c⟩ := T.ex
  exact c.t.d.def_ 4 (d := df_is_name) rfl
theorem Txt.dd__law_numbered (T : Txt w K mg) : ∃ fd, FunD K "_law_numbered" "_law_numbered" (defArgs s__law_numbered) (defBody s__law_numbered) (defScope s__law_numbered) [] [] (He.fAd K ("_law_numbered", none)) fd := by
  obtain ⟨h, X, G, c⟩ := T.ex
  exact c.t.d.def_ 5 (d := df__law_numbered) rfl
theorem Txt.dd__law_raise_some (T : Txt w K mg) : ∃ fd, FunD K "_law_raise_some" "_law_raise_some" (defArgs s__law_raise_some) (defBody s__law_raise_some) (defScope s__law_raise_some) [] [] (He.fAd K ("_law_raise_some", none)) fd := by
  obtain ⟨h, X, G, c⟩ := T.ex
  exact c.t.d.def_ 6 (d := df__law_raise_some) rfl
theorem Txt.dd__law_raise (T : Txt w K mg) : ∃ fd, FunD K "_law_raise" "_law_raise" (defArgs s__law_raise) (defBody s__law_raise) (defScope s__law_raise) [] [] (He.fAd K ("_law_raise", none)) fd := by
  obtain ⟨h, X, G, c⟩ := T.ex
  exact c.t.d.def_ 7 (d := df__law_raise) rfl
theorem Txt.dd__law_raised (T : Txt w K mg) : ∃ fd, FunD K "_law_raised" "_law_raised" (defArgs s__law_raised) (defBody s__law_raised) (defScope s__law_raised) [] [] (He.fAd K ("_law_raised", none)) fd := by
  obtain ⟨h, X, G, c⟩ := T.ex
  exact c.t.d.def_ 8 (d := df__law_raised) rfl
theorem Txt.dd__law_text (T : Txt w K mg) : ∃ fd, FunD K "_law_text" "_law_text" (defArgs s__law_text) (defBody s__law_text) (defScope s__law_text) [] [] (He.fAd K ("_law_text", none)) fd := by
  obtain ⟨h, X, G, c⟩ := T.ex
  exact c.t.d.def_ 9 (d := df__law_text) rfl
theorem Txt.dd__law_right (T : Txt w K mg) : ∃ fd, FunD K "_law_right" "_law_right" (defArgs s__law_right) (defBody s__law_right) (defScope s__law_right) [] [] (He.fAd K ("_law_right", none)) fd := by
  obtain ⟨h, X, G, c⟩ := T.ex
  exact c.t.d.def_ 10 (d := df__law_right) rfl
theorem Txt.dd_law (T : Txt w K mg) : ∃ fd, FunD K "law" "law" (defArgs s_law) (defBody s_law) (defScope s_law) [] [] (He.fAd K ("law", none)) fd := by
  obtain ⟨h, X, G, c⟩ := T.ex
  exact c.t.d.def_ 11 (d := df_law) rfl
theorem Txt.dd_People___init__ (T : Txt w K mg) : ∃ fd, FunD K "__init__" "People.__init__" (defArgs s_People___init__) (defBody s_People___init__) (defScope s_People___init__) [] [] (He.fAd K ("People", some "__init__")) fd := by
  obtain ⟨h, X, G, c⟩ := T.ex
  exact c.t.d.def_ 12 (d := df_People___init__) rfl
theorem Txt.dd_People_number_of (T : Txt w K mg) : ∃ fd, FunD K "number_of" "People.number_of" (defArgs s_People_number_of) (defBody s_People_number_of) (defScope s_People_number_of) [] [] (He.fAd K ("People", some "number_of")) fd := by
  obtain ⟨h, X, G, c⟩ := T.ex
  exact c.t.d.def_ 13 (d := df_People_number_of) rfl
theorem len__law_pot (K : PySem.W.Frag) : ∀ vs H Q E, sp__law_pot K vs H Q E → vs.length = 2 := by
  intro vs H Q E h
  unfold sp__law_pot at h
  split at h <;> first | rfl | exact h.elim
theorem len__law_draw (K : PySem.W.Frag) : ∀ vs H Q E, sp__law_draw K vs H Q E → vs.length = 2 := by
  intro vs H Q E h
  unfold sp__law_draw at h
  split at h <;> first | rfl | exact h.elim
theorem len__law_kinds (K : PySem.W.Frag) : ∀ vs H Q E, sp__law_kinds K vs H Q E → vs.length = 1 := by
  intro vs H Q E h
  unfold sp__law_kinds at h
  split at h <;> first | rfl | exact h.elim
theorem len__law_made (K : PySem.W.Frag) : ∀ vs H Q E, sp__law_made K vs H Q E → vs.length = 1 := by
  intro vs H Q E h
  unfold sp__law_made at h
  split at h <;> first | rfl | exact h.elim
theorem len_is_name (K : PySem.W.Frag) : ∀ vs H Q E, sp_is_name K vs H Q E → vs.length = 1 := by
  intro vs H Q E h
  unfold sp_is_name at h
  split at h <;> first | rfl | exact h.elim
theorem len_People_number_of (K : PySem.W.Frag) : ∀ vs H Q E, sp_People_number_of K vs H Q E → vs.length = 2 := by
  intro vs H Q E h
  unfold sp_People_number_of at h
  split at h <;> first | rfl | exact h.elim
theorem len_People___init__ (K : PySem.W.Frag) : ∀ vs H Q E, sp_People___init__ K vs H Q E → vs.length = 1 := by
  intro vs H Q E h
  unfold sp_People___init__ at h
  split at h <;> first | rfl | exact h.elim
theorem len__law_numbered (K : PySem.W.Frag) : ∀ vs H Q E, sp__law_numbered K vs H Q E → vs.length = 1 := by
  intro vs H Q E h
  unfold sp__law_numbered at h
  split at h <;> first | rfl | exact h.elim
theorem len__law_raise_some (K : PySem.W.Frag) : ∀ vs H Q E, sp__law_raise_some K vs H Q E → vs.length = 2 := by
  intro vs H Q E h
  unfold sp__law_raise_some at h
  split at h <;> first | rfl | exact h.elim
theorem len__law_raise (K : PySem.W.Frag) : ∀ vs H Q E, sp__law_raise K vs H Q E → vs.length = 2 := by
  intro vs H Q E h
  unfold sp__law_raise at h
  split at h <;> first | rfl | exact h.elim
theorem len__law_raised (K : PySem.W.Frag) : ∀ vs H Q E, sp__law_raised K vs H Q E → vs.length = 2 := by
  intro vs H Q E h
  unfold sp__law_raised at h
  split at h <;> first | rfl | exact h.elim
theorem len__law_text (K : PySem.W.Frag) : ∀ vs H Q E, sp__law_text K vs H Q E → vs.length = 1 := by
  intro vs H Q E h
  unfold sp__law_text at h
  split at h <;> first | rfl | exact h.elim
theorem len__law_right (K : PySem.W.Frag) : ∀ vs H Q E, sp__law_right K vs H Q E → vs.length = 1 := by
  intro vs H Q E h
  unfold sp__law_right at h
  split at h <;> first | rfl | exact h.elim
theorem len_law (K : PySem.W.Frag) : ∀ vs H Q E, sp_law K vs H Q E → vs.length = 1 := by
  intro vs H Q E h
  unfold sp_law at h
  split at h <;> first | rfl | exact h.elim
theorem body__law_pot (T : Txt w K mg) {cdv : Value} {A : Around} {outer : List Env} {s : Shared} {H : Hp} {E : XK} (hr : Room 0 (A.deeper (envOfC "_law_pot" (defScope s__law_pot) s.heap.objs.size (He.fAd K ("_law_pot", none)) cdv))) : PSs (cxOf CX0 P w K mg base M__law_pot "_law_pot" (defScope s__law_pot) (He.fAd K ("_law_pot", none)) cdv A outer s H E) (defBody s__law_pot) (t__law_pot K) := by
  
  refine PSs.nox ?_
  exact (pss_cons (ps_asg pe_int (pg_name (i := 2) sc__law_pot.nd rfl (by first | exact Or.inl rfl | exact Or.inr rfl)))
  (pss_cons (ps_if (pt_cmpR op_lt (pv 1) (pe_callB call_len_seq (by rfl) (T.b_len) (by decide +kernel) (pa_cons (pv 0) pa_nil)) (nomark _)) (pss_one (ps_asg (pe_ix ix_list (pv 0) (pv 1) (fun _ _ => rfl)) (pg_name (i := 2) sc__law_pot.nd rfl (by first | exact Or.inl rfl | exact Or.inr rfl)))) pss_nil)
  (pss_one (ps_ret (pe_lst (pa_cons (pe_callB (call_max2 rfl) (by rfl) (T.b_max) (by decide +kernel) (pa_cons pe_int (pa_cons (pe_op op_sub (pe_callB call_abs (by rfl) (T.b_abs) (by decide +kernel) (pa_cons (pv 2) pa_nil)) (pe_op op_pow pe_int pe_int)) pa_nil))) (pa_cons (pe_op op_add (pe_op op_mod (pe_op op_add (pe_callB call_abs (by rfl) (T.b_abs) (by decide +kernel) (pa_cons (pv 2) pa_nil)) (pe_op op_mul pe_int (pv 1))) pe_int) pe_int) pa_nil)))))))
theorem c__law_pot (T : Txt w K mg) : U.Cal P w K mg base CX0 1 "_law_pot" (sp__law_pot K) [] := by
  obtain ⟨fd, F⟩ := T.dd__law_pot
  have hb : Binds K fd ["_law_script", "_law_k"] [] := F.bindsN (ps := ["_law_script", "_law_k"]) (fun _ _ _ _ _ _ us hl => match us, hl with | [_, _], _ => rfl)
  exact ⟨⟨_, fd, _, [], F.ok (CX := CX0) sc__law_pot (len__law_pot K) (fun cdv A outer s H vs Q E hr h => ⟨t__law_pot K, body__law_pot T hr, pure__law_pot vs H Q E h⟩), T.g__law_pot, F.kp, hb, .nil⟩⟩
theorem body__law_draw (T : Txt w K mg) {cdv : Value} {A : Around} {outer : List Env} {s : Shared} {H : Hp} {E : XK} (hr : Room 0 (A.deeper (envOfC "_law_draw" (defScope s__law_draw) s.heap.objs.size (He.fAd K ("_law_draw", none)) cdv))) : PSs (cxOf CX0 P w K mg base M__law_draw "_law_draw" (defScope s__law_draw) (He.fAd K ("_law_draw", none)) cdv A outer s H E) (defBody s__law_draw) (t__law_draw K) := by
  
  refine PSs.nox ?_
  exact (pss_cons (ps_if (pt_cmpR op_gt (pe_ix ix_list (pv 0) pe_int (fun _ _ => rfl)) pe_int (nomark _)) (pss_cons (ps_asg (pe_callB call_divmodW (by rfl) (T.b_divmod) (by decide +kernel) (pa_cons (pe_ix ix_list (pv 0) pe_int (fun _ _ => rfl)) (pa_cons (pv 1) pa_nil))) (pg_tup rfl (pgs_cons (pg_sub (pv 0) pe_int set_list) (pgs_cons (pg_name (i := 2) sc__law_draw.nd rfl (by first | exact Or.inl rfl | exact Or.inr rfl)) pgs_nil))))
  (pss_one (ps_ret (pv 2)))) pss_nil)
  (pss_cons (ps_asg (pe_op op_mod (pe_op op_add (pe_op op_mul (pe_ix ix_list (pv 0) pe_int (fun _ _ => rfl)) pe_int) pe_int) pe_int) (pg_sub (pv 0) pe_int set_list))
  (pss_one (ps_ret (pe_op op_mod (pe_op op_fdivW (pe_op op_mod (pe_op op_mul (pe_ix ix_list (pv 0) pe_int (fun _ _ => rfl)) (pe_ix ix_list (pv 0) pe_int (fun _ _ => rfl))) pe_int) pe_int) (pv 1))))))
theorem c__law_draw (T : Txt w K mg) : U.Cal P w K mg base CX0 1 "_law_draw" (sp__law_draw K) [] := by
  obtain ⟨fd, F⟩ := T.dd__law_draw
  have hb : Binds K fd ["_law_pot_here", "_law_many"] [] := F.bindsN (ps := ["_law_pot_here", "_law_many"]) (fun _ _ _ _ _ _ us hl => match us, hl with | [_, _], _ => rfl)
  exact ⟨⟨_, fd, _, [], F.ok (CX := CX0) sc__law_draw (len__law_draw K) (fun cdv A outer s H vs Q E hr h => ⟨t__law_draw K, body__law_draw T hr, pure__law_draw vs H Q E h⟩), T.g__law_draw, F.kp, hb, .nil⟩⟩
theorem body__law_kinds (T : Txt w K mg) {cdv : Value} {A : Around} {outer : List Env} {s : Shared} {H : Hp} {E : XK} (hr : Room 0 (A.deeper (envOfC "_law_kinds" (defScope s__law_kinds) s.heap.objs.size (He.fAd K ("_law_kinds", none)) cdv))) : PSs (cxOf CX0 P w K mg base M__law_kinds "_law_kinds" (defScope s__law_kinds) (He.fAd K ("_law_kinds", none)) cdv A outer s H E) (defBody s__law_kinds) (t__law_kinds K) := by
  
  refine PSs.nox ?_
  exact (pss_cons (ps_asg (pe_lst (pa_cons (pe_callB call_isO (by rfl) (T.b_isinstance) (by decide +kernel) (pa_cons (pv 0) (pa_cons (pe_gr (by rfl) T.g_NoName) pa_nil))) (pa_cons (pe_callB call_isO (by rfl) (T.b_isinstance) (by decide +kernel) (pa_cons (pv 0) (pa_cons (pe_gr (by rfl) T.g_BadKind) pa_nil))) (pa_cons (pe_callB call_isO (by rfl) (T.b_isinstance) (by decide +kernel) (pa_cons (pv 0) (pa_cons (pe_gr (by rfl) T.g_NoText) pa_nil))) (pa_cons (pe_callB call_isO (by rfl) (T.b_isinstance) (by decide +kernel) (pa_cons (pv 0) (pa_cons (pe_gr (by rfl) T.g_NoPerson) pa_nil))) pa_nil))))) (pg_name (i := 1) sc__law_kinds.nd rfl (by first | exact Or.inl rfl | exact Or.inr rfl)))
  (pss_cons (ps_asg (pe_op op_cat (pv 1) (pe_lst (pa_cons (pe_callB call_isO (by rfl) (T.b_isinstance) (by decide +kernel) (pa_cons (pv 0) (pa_cons (pe_gr (by rfl) T.g_Taken) pa_nil))) (pa_cons (pe_callB call_isO (by rfl) (T.b_isinstance) (by decide +kernel) (pa_cons (pv 0) (pa_cons (pe_gr (by rfl) T.g_NoKind) pa_nil))) (pa_cons (pe_callB call_isO (by rfl) (T.b_isinstance) (by decide +kernel) (pa_cons (pv 0) (pa_cons (pe_gr (by rfl) T.g_NoMatter) pa_nil))) (pa_cons (pe_callB call_isO (by rfl) (T.b_isinstance) (by decide +kernel) (pa_cons (pv 0) (pa_cons (pe_gr (by rfl) T.g_NoThing) pa_nil))) pa_nil)))))) (pg_name (i := 1) sc__law_kinds.nd rfl (by first | exact Or.inl rfl | exact Or.inr rfl)))
  (pss_cons (ps_asg (pe_op op_cat (pv 1) (pe_lst (pa_cons (pe_callB call_isO (by rfl) (T.b_isinstance) (by decide +kernel) (pa_cons (pv 0) (pa_cons (pe_gr (by rfl) T.g_NoWay) pa_nil))) (pa_cons (pe_callB call_isO (by rfl) (T.b_isinstance) (by decide +kernel) (pa_cons (pv 0) (pa_cons (pe_gr (by rfl) T.g_NoRows) pa_nil))) (pa_cons (pe_callB call_isO (by rfl) (T.b_isinstance) (by decide +kernel) (pa_cons (pv 0) (pa_cons (pe_gr (by rfl) T.g_NoDay) pa_nil))) (pa_cons (pe_callB call_isO (by rfl) (T.b_isinstance) (by decide +kernel) (pa_cons (pv 0) (pa_cons (pe_gr (by rfl) T.g_NoHold) pa_nil))) pa_nil)))))) (pg_name (i := 1) sc__law_kinds.nd rfl (by first | exact Or.inl rfl | exact Or.inr rfl)))
  (pss_one (ps_ret (pe_op op_cat (pv 1) (pe_lst (pa_cons (pe_callB call_isO (by rfl) (T.b_isinstance) (by decide +kernel) (pa_cons (pv 0) (pa_cons (pe_gr (by rfl) T.g_NoTelling) pa_nil))) (pa_cons (pe_callB call_isO (by rfl) (T.b_isinstance) (by decide +kernel) (pa_cons (pv 0) (pa_cons (pe_gr (by rfl) T.g_NoAnswer) pa_nil))) (pa_cons (pe_callB call_isO (by rfl) (T.b_isinstance) (by decide +kernel) (pa_cons (pv 0) (pa_cons (pe_gr (by rfl) T.g_Answered) pa_nil))) pa_nil))))))))))
theorem lenH__law_kinds (K : PySem.W.Frag) (ea : Addr) (cls : Value) (ed : Option Addr) : ∀ vs H Q E, spH__law_kinds K ea cls ed vs H Q E → vs.length = 1 := by
  intro vs H Q E h
  unfold spH__law_kinds at h
  split at h <;> first | rfl | exact h.elim
theorem bodyH__law_kinds (T : Txt w K mg) {cdv : Value} {A : Around} {outer : List Env} {s : Shared} {H : Hp} {ea : Addr} {oe : Obj} {cls : Value} {ed : Option Addr} (hz : Zc cls ed oe) (hf : ∃ vs, oe.data = .fields vs) : PSs (L2H.cxH CX0 P w K mg base M__law_kinds "_law_kinds" (defScope s__law_kinds) (He.fAd K ("_law_kinds", none)) cdv A outer s H E0 (ea, oe)) (defBody s__law_kinds) (tH__law_kinds K ea cls ed) := by
  exact (pss_cons (ps_asg (pe_lst (pa_cons (pe_callB (call_isP (List.mem_singleton.mpr rfl) hz hf) (by rfl) (T.b_isinstance) (by decide +kernel) (pa_cons (pv 0) (pa_cons (pe_gr (by rfl) T.g_NoName) pa_nil))) (pa_cons (pe_callB (call_isP (List.mem_singleton.mpr rfl) hz hf) (by rfl) (T.b_isinstance) (by decide +kernel) (pa_cons (pv 0) (pa_cons (pe_gr (by rfl) T.g_BadKind) pa_nil))) (pa_cons (pe_callB (call_isP (List.mem_singleton.mpr rfl) hz hf) (by rfl) (T.b_isinstance) (by decide +kernel) (pa_cons (pv 0) (pa_cons (pe_gr (by rfl) T.g_NoText) pa_nil))) (pa_cons (pe_callB (call_isP (List.mem_singleton.mpr rfl) hz hf) (by rfl) (T.b_isinstance) (by decide +kernel) (pa_cons (pv 0) (pa_cons (pe_gr (by rfl) T.g_NoPerson) pa_nil))) pa_nil))))) (pg_name (i := 1) sc__law_kinds.nd rfl (by first | exact Or.inl rfl | exact Or.inr rfl)))
  (pss_cons (ps_asg (pe_op op_cat (pv 1) (pe_lst (pa_cons (pe_callB (call_isP (List.mem_singleton.mpr rfl) hz hf) (by rfl) (T.b_isinstance) (by decide +kernel) (pa_cons (pv 0) (pa_cons (pe_gr (by rfl) T.g_Taken) pa_nil))) (pa_cons (pe_callB (call_isP (List.mem_singleton.mpr rfl) hz hf) (by rfl) (T.b_isinstance) (by decide +kernel) (pa_cons (pv 0) (pa_cons (pe_gr (by rfl) T.g_NoKind) pa_nil))) (pa_cons (pe_callB (call_isP (List.mem_singleton.mpr rfl) hz hf) (by rfl) (T.b_isinstance) (by decide +kernel) (pa_cons (pv 0) (pa_cons (pe_gr (by rfl) T.g_NoMatter) pa_nil))) (pa_cons (pe_callB (call_isP (List.mem_singleton.mpr rfl) hz hf) (by rfl) (T.b_isinstance) (by decide +kernel) (pa_cons (pv 0) (pa_cons (pe_gr (by rfl) T.g_NoThing) pa_nil))) pa_nil)))))) (pg_name (i := 1) sc__law_kinds.nd rfl (by first | exact Or.inl rfl | exact Or.inr rfl)))
  (pss_cons (ps_asg (pe_op op_cat (pv 1) (pe_lst (pa_cons (pe_callB (call_isP (List.mem_singleton.mpr rfl) hz hf) (by rfl) (T.b_isinstance) (by decide +kernel) (pa_cons (pv 0) (pa_cons (pe_gr (by rfl) T.g_NoWay) pa_nil))) (pa_cons (pe_callB (call_isP (List.mem_singleton.mpr rfl) hz hf) (by rfl) (T.b_isinstance) (by decide +kernel) (pa_cons (pv 0) (pa_cons (pe_gr (by rfl) T.g_NoRows) pa_nil))) (pa_cons (pe_callB (call_isP (List.mem_singleton.mpr rfl) hz hf) (by rfl) (T.b_isinstance) (by decide +kernel) (pa_cons (pv 0) (pa_cons (pe_gr (by rfl) T.g_NoDay) pa_nil))) (pa_cons (pe_callB (call_isP (List.mem_singleton.mpr rfl) hz hf) (by rfl) (T.b_isinstance) (by decide +kernel) (pa_cons (pv 0) (pa_cons (pe_gr (by rfl) T.g_NoHold) pa_nil))) pa_nil)))))) (pg_name (i := 1) sc__law_kinds.nd rfl (by first | exact Or.inl rfl | exact Or.inr rfl)))
  (pss_one (ps_ret (pe_op op_cat (pv 1) (pe_lst (pa_cons (pe_callB (call_isP (List.mem_singleton.mpr rfl) hz hf) (by rfl) (T.b_isinstance) (by decide +kernel) (pa_cons (pv 0) (pa_cons (pe_gr (by rfl) T.g_NoTelling) pa_nil))) (pa_cons (pe_callB (call_isP (List.mem_singleton.mpr rfl) hz hf) (by rfl) (T.b_isinstance) (by decide +kernel) (pa_cons (pv 0) (pa_cons (pe_gr (by rfl) T.g_NoAnswer) pa_nil))) (pa_cons (pe_callB (call_isP (List.mem_singleton.mpr rfl) hz hf) (by rfl) (T.b_isinstance) (by decide +kernel) (pa_cons (pv 0) (pa_cons (pe_gr (by rfl) T.g_Answered) pa_nil))) pa_nil))))))))))
theorem c__law_kinds (T : Txt w K mg) : U.Cal P w K mg base CX0 1 "_law_kinds" (sp__law_kinds K) [] := by
  obtain ⟨fd, F⟩ := T.dd__law_kinds
  have hb : Binds K fd ["_law_e"] [] := F.bindsN (ps := ["_law_e"]) (fun _ _ _ _ _ _ us hl => match us, hl with | [_], _ => rfl)
  exact ⟨⟨_, fd, _, [], F.ok (CX := CX0) sc__law_kinds (len__law_kinds K) (fun cdv A outer s H vs Q E hr h => ⟨t__law_kinds K, body__law_kinds T hr, pure__law_kinds vs H Q E h⟩), T.g__law_kinds, F.kp, hb, .nil⟩⟩
theorem body__law_made (T : Txt w K mg) {cdv : Value} {A : Around} {outer : List Env} {s : Shared} {H : Hp} {E : XK} (hr : Room 0 (A.deeper (envOfC "_law_made" (defScope s__law_made) s.heap.objs.size (He.fAd K ("_law_made", none)) cdv))) : PSs (cxOf CX0 P w K mg base M__law_made "_law_made" (defScope s__law_made) (He.fAd K ("_law_made", none)) cdv A outer s H E) (defBody s__law_made) (t__law_made K) := by
  
  refine PSs.nox ?_
  exact (pss_cons (ps_asg (pe_lst (pa_cons (pe_exc1 PySem.F.excBase_ValueError T.e_NoName.x T.g_NoName T.e_NoName.k (by rfl) (pv 0)) (pa_cons (pe_exc1 PySem.F.excBase_ValueError T.e_BadKind.x T.g_BadKind T.e_BadKind.k (by rfl) (pv 0)) (pa_cons (pe_exc1 PySem.F.excBase_ValueError T.e_NoText.x T.g_NoText T.e_NoText.k (by rfl) (pv 0)) (pa_cons (pe_exc1 PySem.F.excBase_ValueError T.e_NoPerson.x T.g_NoPerson T.e_NoPerson.k (by rfl) (pv 0)) (pa_cons (pe_exc1 PySem.F.excBase_ValueError T.e_Taken.x T.g_Taken T.e_Taken.k (by rfl) (pv 0)) (pa_cons (pe_exc1 PySem.F.excBase_ValueError T.e_NoKind.x T.g_NoKind T.e_NoKind.k (by rfl) (pv 0)) (pa_cons (pe_exc1 PySem.F.excBase_ValueError T.e_NoMatter.x T.g_NoMatter T.e_NoMatter.k (by rfl) (pv 0)) pa_nil)))))))) (pg_name (i := 1) sc__law_made.nd rfl (by first | exact Or.inl rfl | exact Or.inr rfl)))
  (pss_cons (ps_asg (pe_op op_cat (pv 1) (pe_lst (pa_cons (pe_exc1 PySem.F.excBase_ValueError T.e_NoThing.x T.g_NoThing T.e_NoThing.k (by rfl) (pv 0)) (pa_cons (pe_exc1 PySem.F.excBase_ValueError T.e_NoWay.x T.g_NoWay T.e_NoWay.k (by rfl) (pv 0)) (pa_cons (pe_exc1 PySem.F.excBase_ValueError T.e_NoRows.x T.g_NoRows T.e_NoRows.k (by rfl) (pv 0)) (pa_cons (pe_exc1 PySem.F.excBase_ValueError T.e_NoDay.x T.g_NoDay T.e_NoDay.k (by rfl) (pv 0)) (pa_cons (pe_exc1 PySem.F.excBase_ValueError T.e_NoHold.x T.g_NoHold T.e_NoHold.k (by rfl) (pv 0)) (pa_cons (pe_exc1 PySem.F.excBase_ValueError T.e_NoTelling.x T.g_NoTelling T.e_NoTelling.k (by rfl) (pv 0)) pa_nil)))))))) (pg_name (i := 1) sc__law_made.nd rfl (by first | exact Or.inl rfl | exact Or.inr rfl)))
  (pss_one (ps_ret (pe_op op_cat (pv 1) (pe_lst (pa_cons (pe_exc1 PySem.F.excBase_ValueError T.e_NoAnswer.x T.g_NoAnswer T.e_NoAnswer.k (by rfl) (pv 0)) (pa_cons (pe_exc1 PySem.F.excBase_ValueError T.e_Answered.x T.g_Answered T.e_Answered.k (by rfl) (pv 0)) pa_nil))))))))
theorem c__law_made (T : Txt w K mg) : U.Cal P w K mg base CX0 1 "_law_made" (sp__law_made K) [] := by
  obtain ⟨fd, F⟩ := T.dd__law_made
  have hb : Binds K fd ["_law_text_here"] [] := F.bindsN (ps := ["_law_text_here"]) (fun _ _ _ _ _ _ us hl => match us, hl with | [_], _ => rfl)
  exact ⟨⟨_, fd, _, [], F.ok (CX := CX0) sc__law_made (len__law_made K) (fun cdv A outer s H vs Q E hr h => ⟨t__law_made K, body__law_made T hr, pure__law_made vs H Q E h⟩), T.g__law_made, F.kp, hb, .nil⟩⟩
theorem body_is_name (T : Txt w K mg) {cdv : Value} {A : Around} {outer : List Env} {s : Shared} {H : Hp} {E : XK} (hr : Room 0 (A.deeper (envOfC "is_name" (defScope s_is_name) s.heap.objs.size (He.fAd K ("is_name", none)) cdv))) : PSs (cxOf CX0 P w K mg base M_is_name "is_name" (defScope s_is_name) (He.fAd K ("is_name", none)) cdv A outer s H E) (defBody s_is_name) (t_is_name K) := by
  
  refine PSs.nox ?_
  exact (pss_cons (ps_if (PW.pt (pw_or (pt_not (pt_val (pe_callB call_isi (by rfl) (T.b_isinstance) (by decide +kernel) (pa_cons (pv 0) (pa_cons (pe_ty (by rfl) (T.b_str) (by decide +kernel)) pa_nil))))) (pw_or (pt_cmpR op_eq (pv 0) pe_str (nomark _)) (pw_or1 (pt_cmpR op_gt (pe_callB call_len_str (by rfl) (T.b_len) (by decide +kernel) (pa_cons (pv 0) pa_nil)) (pe_gi (by rfl) T.v_MOST_LETTERS) (nomark _)))))) (pss_one (ps_ret pe_bl)) pss_nil)
  (pss_one (ps_ret (pe_callB (cr_all rfl) (by rfl) (T.b_all) (by decide +kernel) (pa_cons (pe_lc (own := [("letter", 1)]) (g := (gName 1)) (tt := tYes) rfl sc_is_name.nd (pi_str (pv 0)) (blkOk_by (N := M_is_name) (sc := defScope s_is_name) (own := [("letter", 1)]) (by decide +kernel)) (fun _ _ _ _ _ => (pg_name (i := 1) sc_is_name.nd rfl (by first | exact Or.inl rfl | exact Or.inr rfl))) (fun _ _ _ _ _ => pts_nil) (fun _ _ _ _ _ => (pe_cmpR op_in_sign (pv 1) (pe_gs (by rfl) T.v_LETTERS) (by rfl)))) pa_nil)))))
theorem c_is_name (T : Txt w K mg) : U.Cal P w K mg base CX0 1 "is_name" (sp_is_name K) [] := by
  obtain ⟨fd, F⟩ := T.dd_is_name
  have hb : Binds K fd ["thing"] [] := F.bindsN (ps := ["thing"]) (fun _ _ _ _ _ _ us hl => match us, hl with | [_], _ => rfl)
  exact ⟨⟨_, fd, _, [], F.ok (CX := CX0) sc_is_name (len_is_name K) (fun cdv A outer s H vs Q E hr h => ⟨t_is_name K, body_is_name T hr, pure_is_name vs H Q E h⟩), T.g_is_name, F.kp, hb, .nil⟩⟩
theorem body_People_number_of (T : Txt w K mg) {cdv : Value} {A : Around} {outer : List Env} {s : Shared} {H : Hp} {E : XK} (hr : Room 1 (A.deeper (envOfC "People.number_of" (defScope s_People_number_of) s.heap.objs.size (He.fAd K ("People", some "number_of")) cdv))) : PSs (cxOf (L2N.CX P w) P w K mg base M_People_number_of "People.number_of" (defScope s_People_number_of) (He.fAd K ("People", some "number_of")) cdv A outer s H E) (defBody s_People_number_of) (t_People_number_of K (fun cls d _ H => E cls d H)) := by
  have c_is_name := c_is_name (P := P) (base := base) T
  have tk : L2N.Takes (cxOf (L2N.CX P w) P w K mg base M_People_number_of "People.number_of" (defScope s_People_number_of) (He.fAd K ("People", some "number_of")) cdv A outer s H E) (fun cls d _ H => E cls d H) := L2N.takes_of rfl rfl rfl rfl
  exact (pss_cons (ps_if (pt_not (pt_val (U.pe_c (E := ES0) c_is_name hr (by decide) ps0 (by rfl) (pa_cons (pv 1) pa_nil)))) (pss_one (ps_rsN rfl tk T.e_NoName T.g_NoName (by rfl))) pss_nil)
  (pss_cons (ps_if (pt_cmp (pc_dnotin (hu_of hr) (pv 1) (pe_fd T.cl_People T.n_People_by_name (pv 0))) (by rfl)) (pss_cons (ps_fdadd T.cl_People T.n_People_many (pv 0) pe_int)
  (pss_cons (ps_dput (hu_of hr) (pe_fd T.cl_People T.n_People_by_name (pv 0)) (pv 1) (pe_fd T.cl_People T.n_People_many (pv 0)) rfl)
  (pss_one (ps_dput (hu_of hr) (pe_fd T.cl_People T.n_People_by_number (pv 0)) (pe_fd T.cl_People T.n_People_many (pv 0)) (pv 1) rfl)))) pss_nil)
  (pss_one (ps_ret (pe_dget (hu_of hr) (pe_fd T.cl_People T.n_People_by_name (pv 0)) (pv 1) (fun _ _ => rfl))))))
theorem m_People_number_of (T : Txt w K mg) : U.Met P w K mg base (L2N.CX P w) 2 (He.ga K "People") "number_of" (sp_People_number_of K) [] := by
  obtain ⟨fd, F⟩ := T.dd_People_number_of
  have hb : Binds K fd ["self", "name"] [] := F.bindsN (ps := ["self", "name"]) (fun _ _ _ _ _ _ us hl => match us, hl with | [_, _], _ => rfl)
  exact ⟨⟨_, fd, _, [], T.cl_People, T.m_People_number_of, F.ok (CX := (L2N.CX P w)) sc_People_number_of (len_People_number_of K) (fun cdv A outer s H vs Q E hr h => ⟨t_People_number_of K (fun cls d _ H => E cls d H), body_People_number_of T hr, pure_People_number_of vs H Q E h⟩), hb, .nil⟩⟩
theorem body_People___init__ (T : Txt w K mg) {cdv : Value} {A : Around} {outer : List Env} {s : Shared} {H : Hp} {E : XK} (hr : Room 0 (A.deeper (envOfC "People.__init__" (defScope s_People___init__) s.heap.objs.size (He.fAd K ("People", some "__init__")) cdv))) : PSs (cxOf CX0 P w K mg base M_People___init__ "People.__init__" (defScope s_People___init__) (He.fAd K ("People", some "__init__")) cdv A outer s H E) (defBody s_People___init__) (t_People___init__ K) := by
  
  refine PSs.nox ?_
  exact (pss_cons (ps_fd T.cl_People T.n_People_by_name (pv 0) (pe_dnewK))
  (pss_cons (ps_fd T.cl_People T.n_People_by_number (pv 0) (pe_dnewK))
  (pss_one (ps_fd T.cl_People T.n_People_many (pv 0) pe_int))))
theorem k_People (T : Txt w K mg) : U.Mak P w K mg base CX0 1 "People" (He.ga K "People") (sp_People___init__ K) [] := by
  obtain ⟨fd, F⟩ := T.dd_People___init__
  have hb : Binds K fd ["self"] [] := F.bindsN (ps := ["self"]) (fun _ _ _ _ _ _ us hl => match us, hl with | [_], _ => rfl)
  exact ⟨⟨_, fd, _, [], T.mk_People, F.ok (CX := CX0) sc_People___init__ (len_People___init__ K) (fun cdv A outer s H vs Q E hr h => ⟨t_People___init__ K, body_People___init__ T hr, pure_People___init__ vs H Q E h⟩), T.g_People, hb, .nil⟩⟩
theorem body__law_numbered (T : Txt w K mg) {cdv : Value} {A : Around} {outer : List Env} {s : Shared} {H : Hp} {E : XK} (hr : Room 2 (A.deeper (envOfC "_law_numbered" (defScope s__law_numbered) s.heap.objs.size (He.fAd K ("_law_numbered", none)) cdv))) : PSs (cxOf CX0 P w K mg base M__law_numbered "_law_numbered" (defScope s__law_numbered) (He.fAd K ("_law_numbered", none)) cdv A outer s H E) (defBody s__law_numbered) (t__law_numbered K) := by
  obtain ⟨fdH, FH__law_kinds⟩ := T.dd__law_kinds
  have bH__law_kinds : Binds K fdH ["_law_e"] [] := FH__law_kinds.bindsN (ps := ["_law_e"]) (fun _ _ _ _ _ _ us hl => match us, hl with | [_], _ => rfl)
  have m_People_number_of := m_People_number_of (P := P) (base := base) T
  have k_People := k_People (P := P) (base := base) T
  refine PSs.nox ?_
  exact (pss_cons (ps_asg (pe_lst pa_nil) (pg_name (i := 1) sc__law_numbered.nd rfl (by first | exact Or.inl rfl | exact Or.inr rfl)))
  (pss_cons (L2N.ps_try_as (i := 2) (tb := fun W => (tDrop (tMt (He.ga K "People") "number_of" (sp_People_number_of K) [] (WE W) (tMk (He.ga K "People") (sp_People___init__ K) [] ES0 tNil) (tCons (tVar 0) tNil)))) (ts := fun ea cls ed => (tAsg (tCl (spH__law_kinds K ea cls ed) [] ES0 (tCons (tVar 2) tNil)) (gName 1))) (Wout := fun _ _ _ _ => False) rfl rfl sc__law_numbered.nd rfl rfl ⟨rfl, by decide, .inl T.g_HallError⟩ takes0N (fun W pn xe tk hpo => (pss_one (ps_expr (U.pe_mt (E := (WE W)) m_People_number_of hr (by decide) (fun σ => L2N.passAt tk σ) (U.pe_mk0 (E := ES0) k_People hr (by decide) ps0 (by rfl)) (pa_cons (pv 0) pa_nil))))) (fun ea oe cls ed pn hz hf => (pss_one (ps_asg (U.pe_hot (k := 1) (p := (ea, oe)) (sp := spH__law_kinds K ea cls ed) FH__law_kinds sc__law_kinds (lenH__law_kinds K ea cls ed) (room_suite hr (by decide)) (hot_suite hz hf) (List.mem_cons_self ..) (fun cdv A outer s H vs Q h => ⟨tH__law_kinds K ea cls ed, bodyH__law_kinds T hz.zc hf, pureH__law_kinds vs H Q E0 h⟩) (by rfl) T.g__law_kinds bH__law_kinds (pa_cons (pv 2) pa_nil)) (pg_name (i := 1) sc__law_numbered.nd rfl (by first | exact Or.inl rfl | exact Or.inr rfl))))))
  (pss_one (ps_ret (pv 1)))))
theorem c__law_numbered (T : Txt w K mg) : U.Cal P w K mg base CX0 3 "_law_numbered" (sp__law_numbered K) [] := by
  obtain ⟨fd, F⟩ := T.dd__law_numbered
  have hb : Binds K fd ["_law_thing"] [] := F.bindsN (ps := ["_law_thing"]) (fun _ _ _ _ _ _ us hl => match us, hl with | [_], _ => rfl)
  exact ⟨⟨_, fd, _, [], F.ok (CX := CX0) sc__law_numbered (len__law_numbered K) (fun cdv A outer s H vs Q E hr h => ⟨t__law_numbered K, body__law_numbered T hr, pure__law_numbered vs H Q E h⟩), T.g__law_numbered, F.kp, hb, .nil⟩⟩
theorem body__law_raise_some (T : Txt w K mg) {cdv : Value} {A : Around} {outer : List Env} {s : Shared} {H : Hp} {E : XK} (hr : Room 0 (A.deeper (envOfC "_law_raise_some" (defScope s__law_raise_some) s.heap.objs.size (He.fAd K ("_law_raise_some", none)) cdv))) : PSs (cxOf (L2N.CX P w) P w K mg base M__law_raise_some "_law_raise_some" (defScope s__law_raise_some) (He.fAd K ("_law_raise_some", none)) cdv A outer s H E) (defBody s__law_raise_some) (t__law_raise_some K (fun cls d _ H => E cls d H) H) := by
  
  have tk : L2N.Takes (cxOf (L2N.CX P w) P w K mg base M__law_raise_some "_law_raise_some" (defScope s__law_raise_some) (He.fAd K ("_law_raise_some", none)) cdv A outer s H E) (fun cls d _ H => E cls d H) := L2N.takes_of rfl rfl rfl rfl
  exact (pss_cons (ps_if (pt_cmpR op_eq (pv 0) pe_int (nomark _)) (pss_one (ps_rsV rfl rfl tk T.e_NoName T.g_NoName (by rfl) (pv 1))) pss_nil)
  (pss_cons (ps_if (pt_cmpR op_eq (pv 0) pe_int (nomark _)) (pss_one (ps_rsV rfl rfl tk T.e_BadKind T.g_BadKind (by rfl) (pv 1))) pss_nil)
  (pss_cons (ps_if (pt_cmpR op_eq (pv 0) pe_int (nomark _)) (pss_one (ps_rsV rfl rfl tk T.e_NoText T.g_NoText (by rfl) (pv 1))) pss_nil)
  (pss_cons (ps_if (pt_cmpR op_eq (pv 0) pe_int (nomark _)) (pss_one (ps_rsV rfl rfl tk T.e_NoPerson T.g_NoPerson (by rfl) (pv 1))) pss_nil)
  (pss_cons (ps_if (pt_cmpR op_eq (pv 0) pe_int (nomark _)) (pss_one (ps_rsV rfl rfl tk T.e_Taken T.g_Taken (by rfl) (pv 1))) pss_nil)
  (pss_cons (ps_if (pt_cmpR op_eq (pv 0) pe_int (nomark _)) (pss_one (ps_rsV rfl rfl tk T.e_NoKind T.g_NoKind (by rfl) (pv 1))) pss_nil)
  (pss_cons (ps_if (pt_cmpR op_eq (pv 0) pe_int (nomark _)) (pss_one (ps_rsV rfl rfl tk T.e_NoMatter T.g_NoMatter (by rfl) (pv 1))) pss_nil)
  (pss_one (ps_rsV rfl rfl tk T.e_NoThing T.g_NoThing (by rfl) (pv 1))))))))))
theorem c__law_raise_some (T : Txt w K mg) : U.Cal P w K mg base (L2N.CX P w) 1 "_law_raise_some" (sp__law_raise_some K) [] := by
  obtain ⟨fd, F⟩ := T.dd__law_raise_some
  have hb : Binds K fd ["_law_k", "_law_text_here"] [] := F.bindsN (ps := ["_law_k", "_law_text_here"]) (fun _ _ _ _ _ _ us hl => match us, hl with | [_, _], _ => rfl)
  exact ⟨⟨_, fd, _, [], F.ok (CX := (L2N.CX P w)) sc__law_raise_some (len__law_raise_some K) (fun cdv A outer s H vs Q E hr h => ⟨t__law_raise_some K (fun cls d _ H => E cls d H) H, body__law_raise_some T hr, pure__law_raise_some vs H Q E h⟩), T.g__law_raise_some, F.kp, hb, .nil⟩⟩
theorem body__law_raise (T : Txt w K mg) {cdv : Value} {A : Around} {outer : List Env} {s : Shared} {H : Hp} {E : XK} (hr : Room 1 (A.deeper (envOfC "_law_raise" (defScope s__law_raise) s.heap.objs.size (He.fAd K ("_law_raise", none)) cdv))) : PSs (cxOf (L2N.CX P w) P w K mg base M__law_raise "_law_raise" (defScope s__law_raise) (He.fAd K ("_law_raise", none)) cdv A outer s H E) (defBody s__law_raise) (t__law_raise K (fun cls d _ H => E cls d H) H) := by
  have c__law_raise_some := c__law_raise_some (P := P) (base := base) T
  have tk : L2N.Takes (cxOf (L2N.CX P w) P w K mg base M__law_raise "_law_raise" (defScope s__law_raise) (He.fAd K ("_law_raise", none)) cdv A outer s H E) (fun cls d _ H => E cls d H) := L2N.takes_of rfl rfl rfl rfl
  exact (pss_cons (ps_if (pt_cmpR op_lt (pv 0) pe_int (nomark _)) (pss_one (ps_expr (U.pe_c (E := (WE (fun cls d _ H => E cls d H))) c__law_raise_some hr (by decide) (fun σ => L2N.passAt tk σ) (by rfl) (pa_cons (pv 0) (pa_cons (pv 1) pa_nil))))) pss_nil)
  (pss_cons (ps_if (pt_cmpR op_eq (pv 0) pe_int (nomark _)) (pss_one (ps_rsV rfl rfl tk T.e_NoWay T.g_NoWay (by rfl) (pv 1))) pss_nil)
  (pss_cons (ps_if (pt_cmpR op_eq (pv 0) pe_int (nomark _)) (pss_one (ps_rsV rfl rfl tk T.e_NoRows T.g_NoRows (by rfl) (pv 1))) pss_nil)
  (pss_cons (ps_if (pt_cmpR op_eq (pv 0) pe_int (nomark _)) (pss_one (ps_rsV rfl rfl tk T.e_NoDay T.g_NoDay (by rfl) (pv 1))) pss_nil)
  (pss_cons (ps_if (pt_cmpR op_eq (pv 0) pe_int (nomark _)) (pss_one (ps_rsV rfl rfl tk T.e_NoHold T.g_NoHold (by rfl) (pv 1))) pss_nil)
  (pss_cons (ps_if (pt_cmpR op_eq (pv 0) pe_int (nomark _)) (pss_one (ps_rsV rfl rfl tk T.e_NoTelling T.g_NoTelling (by rfl) (pv 1))) pss_nil)
  (pss_cons (ps_if (pt_cmpR op_eq (pv 0) pe_int (nomark _)) (pss_one (ps_rsV rfl rfl tk T.e_NoAnswer T.g_NoAnswer (by rfl) (pv 1))) pss_nil)
  (pss_one (ps_rsV rfl rfl tk T.e_Answered T.g_Answered (by rfl) (pv 1))))))))))
theorem c__law_raise (T : Txt w K mg) : U.Cal P w K mg base (L2N.CX P w) 2 "_law_raise" (sp__law_raise K) [] := by
  obtain ⟨fd, F⟩ := T.dd__law_raise
  have hb : Binds K fd ["_law_k", "_law_text_here"] [] := F.bindsN (ps := ["_law_k", "_law_text_here"]) (fun _ _ _ _ _ _ us hl => match us, hl with | [_, _], _ => rfl)
  exact ⟨⟨_, fd, _, [], F.ok (CX := (L2N.CX P w)) sc__law_raise (len__law_raise K) (fun cdv A outer s H vs Q E hr h => ⟨t__law_raise K (fun cls d _ H => E cls d H) H, body__law_raise T hr, pure__law_raise vs H Q E h⟩), T.g__law_raise, F.kp, hb, .nil⟩⟩
theorem body__law_raised (T : Txt w K mg) {cdv : Value} {A : Around} {outer : List Env} {s : Shared} {H : Hp} {E : XK} (hr : Room 2 (A.deeper (envOfC "_law_raised" (defScope s__law_raised) s.heap.objs.size (He.fAd K ("_law_raised", none)) cdv))) : PSs (cxOf CX0 P w K mg base M__law_raised "_law_raised" (defScope s__law_raised) (He.fAd K ("_law_raised", none)) cdv A outer s H E) (defBody s__law_raised) (t__law_raised K) := by
  obtain ⟨fdH, FH__law_kinds⟩ := T.dd__law_kinds
  have bH__law_kinds : Binds K fdH ["_law_e"] [] := FH__law_kinds.bindsN (ps := ["_law_e"]) (fun _ _ _ _ _ _ us hl => match us, hl with | [_], _ => rfl)
  have c__law_raise := c__law_raise (P := P) (base := base) T
  refine PSs.nox ?_
  exact (pss_cons (ps_asg (pe_lst pa_nil) (pg_name (i := 2) sc__law_raised.nd rfl (by first | exact Or.inl rfl | exact Or.inr rfl)))
  (pss_cons (L2N.ps_try_as (i := 3) (tb := fun W => (tDrop (tCl (sp__law_raise K) [] (WE W) (tCons (tVar 0) (tCons (tVar 1) tNil))))) (ts := fun ea cls ed => (tAsg (tCl (spH__law_kinds K ea cls ed) [] ES0 (tCons (tVar 3) tNil)) (gName 2))) (Wout := fun _ _ _ _ => False) rfl rfl sc__law_raised.nd rfl rfl ⟨rfl, by decide, .inl T.g_HallError⟩ takes0N (fun W pn xe tk hpo => (pss_one (ps_expr (U.pe_c (E := (WE W)) c__law_raise hr (by decide) (fun σ => L2N.passAt tk σ) (by rfl) (pa_cons (pv 0) (pa_cons (pv 1) pa_nil)))))) (fun ea oe cls ed pn hz hf => (pss_one (ps_asg (U.pe_hot (k := 1) (p := (ea, oe)) (sp := spH__law_kinds K ea cls ed) FH__law_kinds sc__law_kinds (lenH__law_kinds K ea cls ed) (room_suite hr (by decide)) (hot_suite hz hf) (List.mem_cons_self ..) (fun cdv A outer s H vs Q h => ⟨tH__law_kinds K ea cls ed, bodyH__law_kinds T hz.zc hf, pureH__law_kinds vs H Q E0 h⟩) (by rfl) T.g__law_kinds bH__law_kinds (pa_cons (pv 3) pa_nil)) (pg_name (i := 2) sc__law_raised.nd rfl (by first | exact Or.inl rfl | exact Or.inr rfl))))))
  (pss_one (ps_ret (pv 2)))))
theorem c__law_raised (T : Txt w K mg) : U.Cal P w K mg base CX0 3 "_law_raised" (sp__law_raised K) [] := by
  obtain ⟨fd, F⟩ := T.dd__law_raised
  have hb : Binds K fd ["_law_k", "_law_text_here"] [] := F.bindsN (ps := ["_law_k", "_law_text_here"]) (fun _ _ _ _ _ _ us hl => match us, hl with | [_, _], _ => rfl)
  exact ⟨⟨_, fd, _, [], F.ok (CX := CX0) sc__law_raised (len__law_raised K) (fun cdv A outer s H vs Q E hr h => ⟨t__law_raised K, body__law_raised T hr, pure__law_raised vs H Q E h⟩), T.g__law_raised, F.kp, hb, .nil⟩⟩
theorem body__law_text (T : Txt w K mg) {cdv : Value} {A : Around} {outer : List Env} {s : Shared} {H : Hp} {E : XK} (hr : Room 1 (A.deeper (envOfC "_law_text" (defScope s__law_text) s.heap.objs.size (He.fAd K ("_law_text", none)) cdv))) : PSs (cxOf CX0 P w K mg base M__law_text "_law_text" (defScope s__law_text) (He.fAd K ("_law_text", none)) cdv A outer s H E) (defBody s__law_text) (t__law_text K) := by
  have c__law_draw := c__law_draw (P := P) (base := base) T
  refine PSs.nox ?_
  exact (pss_cons (ps_asg pe_str (pg_name (i := 1) sc__law_text.nd rfl (by first | exact Or.inl rfl | exact Or.inr rfl)))
  (pss_one (ps_ret (pe_m1 PySem.F.slot_str_join PySem.F.type_str_join mt_join pe_str (pe_lc (own := [("_law_k", 2)]) (g := (gName 2)) (tt := tYes) rfl sc__law_text.nd (pi_range1 (by rfl) (T.b_range) (pa_cons (U.pe_c (E := ES0) c__law_draw hr (by decide) ps0 (by rfl) (pa_cons (pv 0) (pa_cons pe_int pa_nil))) pa_nil)) (blkOk_by (N := M__law_text) (sc := defScope s__law_text) (own := [("_law_k", 2)]) (by decide +kernel)) (fun _ _ _ _ _ => (pg_name (i := 2) sc__law_text.nd rfl (by first | exact Or.inl rfl | exact Or.inr rfl))) (fun _ _ _ _ _ => pts_nil) (fun _ _ _ _ _ => (pe_ix ix_str (pv 1) (U.pe_c (E := ES0) c__law_draw hr (by decide) ps0 (by rfl) (pa_cons (pv 0) (pa_cons (pe_callB call_len_str (by rfl) (T.b_len) (by decide +kernel) (pa_cons (pv 1) pa_nil)) pa_nil))) (fun _ _ => rfl))))))))
theorem c__law_text (T : Txt w K mg) : U.Cal P w K mg base CX0 2 "_law_text" (sp__law_text K) [] := by
  obtain ⟨fd, F⟩ := T.dd__law_text
  have hb : Binds K fd ["_law_pot_here"] [] := F.bindsN (ps := ["_law_pot_here"]) (fun _ _ _ _ _ _ us hl => match us, hl with | [_], _ => rfl)
  exact ⟨⟨_, fd, _, [], F.ok (CX := CX0) sc__law_text (len__law_text K) (fun cdv A outer s H vs Q E hr h => ⟨t__law_text K, body__law_text T hr, pure__law_text vs H Q E h⟩), T.g__law_text, F.kp, hb, .nil⟩⟩
theorem body__law_right (T : Txt w K mg) {cdv : Value} {A : Around} {outer : List Env} {s : Shared} {H : Hp} {E : XK} (hr : Room 3 (A.deeper (envOfC "_law_right" (defScope s__law_right) s.heap.objs.size (He.fAd K ("_law_right", none)) cdv))) : PSs (cxOf CX0 P w K mg base M__law_right "_law_right" (defScope s__law_right) (He.fAd K ("_law_right", none)) cdv A outer s H E) (defBody s__law_right) (t__law_right K) := by
  have c__law_draw := c__law_draw (P := P) (base := base) T
  have c__law_kinds := c__law_kinds (P := P) (base := base) T
  have c__law_made := c__law_made (P := P) (base := base) T
  have c__law_numbered := c__law_numbered (P := P) (base := base) T
  have c__law_raised := c__law_raised (P := P) (base := base) T
  have c__law_text := c__law_text (P := P) (base := base) T
  refine PSs.nox ?_
  exact (pss_cons (ps_asg (U.pe_c (E := ES0) c__law_text hr (by decide) ps0 (by rfl) (pa_cons (pv 0) pa_nil)) (pg_name (i := 1) sc__law_right.nd rfl (by first | exact Or.inl rfl | exact Or.inr rfl)))
  (pss_cons (ps_for PassesOwn.never rfl (pi_enum (by rfl) (T.b_enumerate) (pa_cons (U.pe_c (E := ES0) c__law_made hr (by decide) ps0 (by rfl) (pa_cons (pv 1) pa_nil)) pa_nil)) (pg_tup rfl (pgs_cons (pg_name (i := 2) sc__law_right.nd rfl (by first | exact Or.inl rfl | exact Or.inr rfl)) (pgs_cons (pg_name (i := 3) sc__law_right.nd rfl (by first | exact Or.inl rfl | exact Or.inr rfl)) pgs_nil))) (pss_cons (ps_if (pt_cmpR (op_neD hr.units) (U.pe_c (E := ES0) c__law_kinds hr (by decide) ps0 (by rfl) (pa_cons (pv 3) pa_nil)) (pe_lc (own := [("_law_at", 5)]) (g := (gName 5)) (tt := tYes) rfl sc__law_right.nd (pi_range1 (by rfl) (T.b_range) (pa_cons pe_int pa_nil)) (blkOk_by (N := M__law_right) (sc := defScope s__law_right) (own := [("_law_at", 5)]) (by decide +kernel)) (fun _ _ _ _ _ => (pg_name (i := 5) sc__law_right.nd rfl (by first | exact Or.inl rfl | exact Or.inr rfl))) (fun _ _ _ _ _ => pts_nil) (fun _ _ _ _ _ => (pe_cmpR op_eq (pv 2) (pv 5) (nomark _)))) (nomark _)) (pss_one (ps_ret pe_bl)) pss_nil)
  (pss_one (ps_if (PW.pt (pw_or (pt_not (pt_val (pe_callB call_isO (by rfl) (T.b_isinstance) (by decide +kernel) (pa_cons (pv 3) (pa_cons (pe_gr (by rfl) T.g_HallError) pa_nil))))) (pw_or1 (pt_not (pt_val (pe_callB call_isO (by rfl) (T.b_isinstance) (by decide +kernel) (pa_cons (pv 3) (pa_cons (pe_ty (by rfl) (T.b_ValueError) (by decide +kernel)) pa_nil)))))))) (pss_one (ps_ret pe_bl)) pss_nil))))
  (pss_cons (ps_asg (U.pe_c (E := ES0) c__law_draw hr (by decide) ps0 (by rfl) (pa_cons (pv 0) (pa_cons pe_int pa_nil))) (pg_name (i := 2) sc__law_right.nd rfl (by first | exact Or.inl rfl | exact Or.inr rfl)))
  (pss_cons (ps_if (pt_cmpR (op_neD hr.units) (U.pe_c (E := ES0) c__law_raised hr (by decide) ps0 (by rfl) (pa_cons (pv 2) (pa_cons (pv 1) pa_nil))) (pe_lc (own := [("_law_at", 5)]) (g := (gName 5)) (tt := tYes) rfl sc__law_right.nd (pi_range1 (by rfl) (T.b_range) (pa_cons pe_int pa_nil)) (blkOk_by (N := M__law_right) (sc := defScope s__law_right) (own := [("_law_at", 5)]) (by decide +kernel)) (fun _ _ _ _ _ => (pg_name (i := 5) sc__law_right.nd rfl (by first | exact Or.inl rfl | exact Or.inr rfl))) (fun _ _ _ _ _ => pts_nil) (fun _ _ _ _ _ => (pe_cmpR op_eq (pv 2) (pv 5) (nomark _)))) (nomark _)) (pss_one (ps_ret pe_bl)) pss_nil)
  (pss_cons (ps_asg (pe_ix ix_list (pe_lst (pa_cons pe_str (pa_cons pe_str (pa_cons pe_str (pa_cons pe_str (pa_cons pe_non (pa_cons pe_int (pa_cons pe_bl (pa_cons (pe_tup (pa_cons pe_str pa_nil)) (pa_cons (pe_lst (pa_cons pe_str pa_nil)) pa_nil)))))))))) (U.pe_c (E := ES0) c__law_draw hr (by decide) ps0 (by rfl) (pa_cons (pv 0) (pa_cons pe_int pa_nil))) (fun _ _ => rfl)) (pg_name (i := 4) sc__law_right.nd rfl (by first | exact Or.inl rfl | exact Or.inr rfl)))
  (pss_one (ps_ret (pe_cmpR (op_eqD hr.units) (U.pe_c (E := ES0) c__law_numbered hr (by decide) ps0 (by rfl) (pa_cons (pv 4) pa_nil)) (pe_lc (own := [("_law_at", 5)]) (g := (gName 5)) (tt := tYes) rfl sc__law_right.nd (pi_range1 (by rfl) (T.b_range) (pa_cons pe_int pa_nil)) (blkOk_by (N := M__law_right) (sc := defScope s__law_right) (own := [("_law_at", 5)]) (by decide +kernel)) (fun _ _ _ _ _ => (pg_name (i := 5) sc__law_right.nd rfl (by first | exact Or.inl rfl | exact Or.inr rfl))) (fun _ _ _ _ _ => pts_nil) (fun _ _ _ _ _ => (pe_cmpR op_eq (pv 5) pe_int (nomark _)))) (nomark _)))))))))
theorem c__law_right (T : Txt w K mg) : U.Cal P w K mg base CX0 4 "_law_right" (sp__law_right K) [] := by
  obtain ⟨fd, F⟩ := T.dd__law_right
  have hb : Binds K fd ["_law_pot_here"] [] := F.bindsN (ps := ["_law_pot_here"]) (fun _ _ _ _ _ _ us hl => match us, hl with | [_], _ => rfl)
  exact ⟨⟨_, fd, _, [], F.ok (CX := CX0) sc__law_right (len__law_right K) (fun cdv A outer s H vs Q E hr h => ⟨t__law_right K, body__law_right T hr, pure__law_right vs H Q E h⟩), T.g__law_right, F.kp, hb, .nil⟩⟩
theorem body_law (T : Txt w K mg) {cdv : Value} {A : Around} {outer : List Env} {s : Shared} {H : Hp} {E : XK} (hr : Room 4 (A.deeper (envOfC "law" (defScope s_law) s.heap.objs.size (He.fAd K ("law", none)) cdv))) : PSs (cxOf CX0 P w K mg base M_law "law" (defScope s_law) (He.fAd K ("law", none)) cdv A outer s H E) (defBody s_law) (t_law K) := by
  have c__law_pot := c__law_pot (P := P) (base := base) T
  have c__law_right := c__law_right (P := P) (base := base) T
  refine PSs.nox ?_
  exact (pss_cons (ps_for PassesOwn.never rfl (pi_range1 (by rfl) (T.b_range) (pa_cons (pe_callB (call_max2 rfl) (by rfl) (T.b_max) (by decide +kernel) (pa_cons pe_int (pa_cons (pe_callB (call_min2 rfl) (by rfl) (T.b_min) (by decide +kernel) (pa_cons pe_int (pa_cons (pe_callB call_len_seq (by rfl) (T.b_len) (by decide +kernel) (pa_cons (pv 0) pa_nil)) pa_nil))) pa_nil))) pa_nil)) (pg_name (i := 1) sc_law.nd rfl (by first | exact Or.inl rfl | exact Or.inr rfl)) (pss_one (ps_if (pt_not (pt_val (U.pe_c (E := ES0) c__law_right hr (by decide) ps0 (by rfl) (pa_cons (U.pe_c (E := ES0) c__law_pot hr (by decide) ps0 (by rfl) (pa_cons (pv 0) (pa_cons (pv 1) pa_nil))) pa_nil)))) (pss_one (ps_ret pe_bl)) pss_nil)))
  (pss_one (ps_ret pe_bl)))
theorem ok_law (T : Txt w K mg) : ∃ fd : FuncData, (∀ (s : Shared) (v : Value), BindsTo s fd ⟨[v], []⟩ [("_law_script", v)]) ∧ ∀ base : Heap, FnOk P w K mg base CX0 5 (He.ga K "law") fd ["_law_script"] (sp_law K) := by
  obtain ⟨fd, F⟩ := T.dd_law
  have b := FunD.bindsA (ps := ["_law_script"]) F fun _ _ _ _ _ _ us hl => match us, hl with | [_], _ => rfl
  exact ⟨fd, fun s v => b s [v] rfl, fun base => F.ok (CX := CX0) sc_law (len_law K) (fun cdv A outer s H vs Q E hr h => ⟨t_law K, body_law T hr, pure_law vs H Q E h⟩)⟩
end
def loose0 : List Str := ["_wall", "HallError", "NoName", "BadKind", "NoText", "NoPerson", "Taken", "NoKind", "NoMatter", "NoThing", "NoWay", "NoRows", "NoDay", "NoHold", "NoTelling", "NoAnswer", "Answered", "LETTERS", "MOST_LETTERS", "is_name", "People", "_law_pot", "_law_draw", "_law_text", "_law_kinds", "_law_made", "_law_raise_some", "_law_raise", "_law_raised", "_law_numbered"]
def loose1 : List Str := ["_law_right"]
def loose : List Str := loose0 ++ loose1
abbrev R : PySem.W.OpenRow := PySem.W.OpenLaw.row PySem.Challenge.rw_forgethall_k16_refusals_made
abbrev hk : PySem.W.Hook := He.hookX 6 fa fn [] [] ex
def ob (s : PySem.W.SharedT) : He.AlX := He.obsX 6 fa fn [] [] ex (HandSHeadRun.getT s)
theorem ob_eq (s : PySem.W.SharedT) : ob s = hk.obs s.abs := He.obsX_eq (HandSHeadRun.getT_eq s)
theorem run (w : World) : HandSHeadRun.RunEq R (PySem.W.view R.prog [34]) hk ob 6000 loose w := by
  intro os
  kernel_rfl
end G16
open PySem PySem.W PySem.Calls PyProof.Rows
set_option maxRecDepth 100000 in
theorem PySem.Challenge.cw_forgethall_k16_refusals_made_holds : PySem.Challenge.rw_forgethall_k16_refusals_made.Holds := by
  w_on; o_law
  refine HandSHeadRun.head_any (r := (OpenLaw.row PySem.Challenge.rw_forgethall_k16_refusals_made)) (q := view (OpenLaw.row PySem.Challenge.rw_forgethall_k16_refusals_made).prog [34]) (H := G16.hk) (ob := G16.ob) (M := 6000) (loose := G16.loose) (d := HandSHeadRun.topDef (OpenLaw.row PySem.Challenge.rw_forgethall_k16_refusals_made).prog 34) (kwd := []) G16.ob_eq
    (by kernel_rfl) (fun s => by kernel_rfl) G16.run (by kernel_rfl) (by kernel_rfl) (by kernel_rfl) (by rfl) (by first | assumption | decide +kernel) (by decide +kernel) ⟨rfl, rfl, rfl, rfl, rfl, by decide +kernel⟩ ?hw ?hc
  case hw => w_witness2
  case hc =>
    refine L2.walk_ofE (l := PySem.Challenge.rw_forgethall_k16_refusals_made) (n := 63) (k := 5) (x := "_law_script") (CX := L2.CX0) rfl (by decide) (by kernel_rfl) ⟨rfl, by decide, by decide⟩ ?F (fun _ _ _ _ z => z)
    intro w mg fa h Y GG hmg0
    obtain ⟨K, KX, c⟩ := Y
    have T : G16.Txt w K mg := ⟨h, KX, GG, c⟩
    have hmg : mg ("law" : PySem.Str) = some (.ref fa) := by
      have e : (HandSHeadRun.topDef (OpenLaw.row PySem.Challenge.rw_forgethall_k16_refusals_made).prog 34).name = ("law" : PySem.Str) := by kernel_rfl
      rw [← e]
      exact hmg0
    have e := hmg.symm.trans T.g_law
    cases e
    obtain ⟨fd, hb, hF⟩ := G16.ok_law (P := (PySem.Challenge.rw_forgethall_k16_refusals_made).prog) T
    exact ⟨K, fd, G16.sp_law K, KX, hb, fun H a ns hl hO hS => G16.law_asks K (U.errB_ok c.more) H a ns hl hO hS, fun base _ _ => hF base⟩
