import PyProof.Rows.All
import Wide.All
import OpenK.AllK
import Wide.FinOn
import KE.KStateDown
import HandS.ForMost
import HandS.ForExc
import HandS.ExcIs
import HandS.IsInst
import HandS.Codes
import HandS.Conv
import HandS.More
import HandS.SortInts
import HandS.Strs
import HandS.SetKeys
import HandS.Flow
import HandS.NoneIn
import HandS.Defaults
import HandS.CallSlots
import HandS.Deep
import HandS.Wide
import HandS.WideBits
import HandS.Head0
import HandS.Head1
import HandS.Head2
import HandS.HeadEnd
import HandS.HeadHook1
import HandS.HeadHook2
import HandS.HeadHook3
import HandS.HeadHook4
import HandS.Text
import PySem.Challenge.RW_forgethall_k15_whole_kind_texts_judged
set_option Elab.async false
set_option linter.all false
set_option maxRecDepth 100000
set_option maxHeartbeats 4000000
/-! Own rules over the hand layer: calls by packages, fields by a known class, raising, isinstance in an except suite. -/
namespace U
open PySem PySem.Spec PyProof.Rows L2

/-! ### packages: a def, a method, a class that may be called -/
structure Cal (P : Program) (w : World) (K : PySem.W.Frag) (mg : Str → Option Value) (base : Heap) (CX : CXT) (k : Nat) (x : Str) (sp : Sp) (dvs : List V) : Prop where
  ex : ∃ (f : Addr) (fd : FuncData) (ps : List Str) (ds : List Value), FnOk P w K mg base CX k f fd ps sp ∧ mg x = some (.ref f) ∧ PySem.W.keepIn K (.ref f) = true ∧ Binds K fd ps ds ∧ Vals dvs ds
structure Met (P : Program) (w : World) (K : PySem.W.Frag) (mg : Str → Option Value) (base : Heap) (CX : CXT) (k : Nat) (C : Addr) (m : Str) (sp : Sp) (dvs : List V) : Prop where
  ex : ∃ (f : Addr) (fd : FuncData) (ps : List Str) (ds : List Value), Cls K C ∧ Meth K C m f ∧ FnOk P w K mg base CX k f fd ps sp ∧ Binds K fd ps ds ∧ Vals dvs ds
structure Mak (P : Program) (w : World) (K : PySem.W.Frag) (mg : Str → Option Value) (base : Heap) (CX : CXT) (k : Nat) (x : Str) (C : Addr) (sp : Sp) (dvs : List V) : Prop where
  ex : ∃ (f : Addr) (fd : FuncData) (ps : List Str) (ds : List Value), Mk K C f ∧ FnOk P w K mg base CX k f fd ps sp ∧ mg x = some (.ref C) ∧ Binds K fd ps ds ∧ Vals dvs ds

abbrev tCl : Sp → List V → (L2.St → XK) → TA → TE := L2.tCallSD
def tMt (C : Addr) (m : Str) (sp : Sp) (dvs : List V) (E : L2.St → XK) (ta : TE) (t : TA) : TE := fun σ H Q => ta σ H fun x H1 => ∃ a dx fs, x = .ref a ∧ H1 a = some (.ins C dx fs) ∧ fs.lookup m = none ∧
  t σ H1 fun vs H2 => sp (x :: (vs ++ dvs)) H2 Q (E σ)
def tMk (C : Addr) (sp : Sp) (dvs : List V) (E : L2.St → XK) (t : TA) : TE := fun σ H Q => t σ H fun vs H1 => ∀ x dx, H1 x = none → H1 dx = none → dx ≠ x →
  sp (.ref x :: (vs ++ dvs)) (upd (upd H1 dx (.own x)) x (.ins C dx [])) (fun v H2 => v = .non ∧ Q (.ref x) H2) (E σ)

abbrev ES0 : L2.St → XK := fun _ _ _ _ => False
theorem ps0 {X : Cx} {E : L2.St → XK} : ∀ σ, PassesAt CX0 X σ (E σ) := fun _ _ _ _ _ _ _ h => h.elim

section
variable {X : Cx} {CX : CXT} {k j : Nat} {f C : Addr} {fd : FuncData} {ps : List Str} {sp : Sp} {dvs : List V} {ds : List Value} {E : L2.St → XK} {x m : Str} {p pos apos : Pos} {e o : Expr} {es : List Expr} {ta : TE} {t : TA}
theorem pe_c (c : Cal X.prog X.w X.K X.mg X.base CX k x sp dvs) (hr : Room j X.A) (hk : k ≤ j) (hx : ∀ σ, PassesAt CX X σ (E σ)) (hg : Gl X x) (ha : PA X (e :: es) t)
    (hdb : (x == ("__debug__" : Str)) = false := by decide) (he : starEach (e :: es) X.env = (false, eval e X.env) :: starEach es X.env := by rfl) (hpl : (backTo pos (starEach es X.env)).any (·.1) = false := by rfl) :
    PE X (.Call (.Name x p) (e :: es) [] pos) (tCl sp dvs E t) := by
  obtain ⟨f, fd, ps, ds, F, hm, kp, b, d⟩ := c.ex
  exact L2.pe_callSD F (hr.mono hk) hg hm kp b d hx ha hdb he hpl
theorem pe_c0 (c : Cal X.prog X.w X.K X.mg X.base CX k x sp dvs) (hr : Room j X.A) (hk : k ≤ j) (hx : ∀ σ, PassesAt CX X σ (E σ)) (hg : Gl X x)
    (hdb : (x == ("__debug__" : Str)) = false := by decide) : PE X (.Call (.Name x p) [] [] pos) (tCl sp dvs E tNil) := by
  obtain ⟨f, fd, ps, ds, F, hm, kp, b, d⟩ := c.ex
  refine ⟨fun pins s σ H Q I h => ?_⟩
  refine wpAny_Call_Name_kw (ld_glob I hg hm ?_ hdb)
  exact PySem.W.callWith_K0 I.kIn kp (L2.run_fnSD (us := []) F (hr.mono hk) b d (hx σ) I .nil h)
theorem pe_mt {pl : Sem Bool} (c : Met X.prog X.w X.K X.mg X.base CX k C m sp dvs) (hr : Room j X.A) (hk : k ≤ j) (hx : ∀ σ, PassesAt CX X σ (E σ)) (he : PE X o ta) (ha : PA X (e :: es) t)
    (hst : starEach (e :: es) X.env = (false, eval e X.env) :: starEach es X.env := by rfl) (hpl : (backTo pos (starEach es X.env)).any (·.1) = false := by rfl)
    (ht : eval (.Call (.Attribute o m apos) (e :: es) [] pos) X.env = (do
      let ov ← eval o X.env
      standAt apos.atName
      let (f, first) ← holding [ov] (getMethod ov m pl)
      callWith pos f first (backTo pos (starEach (e :: es) X.env)) (backToKw pos (keywordEach [] X.env))) := by rfl) :
    PE X (.Call (.Attribute o m apos) (e :: es) [] pos) (tMt C m sp dvs E ta t) := by
  obtain ⟨f, fd, ps, ds, hc, hm, F, b, d⟩ := c.ex
  refine ⟨fun pins s σ H Q I h => ?_⟩
  refine PySem.W.methodCall_KW (pl := pl) (thn (he.run pins s σ H _ I h) fun u s1 ⟨x, H1, I1, rx, a, dx, fs, ex, ea, l, q⟩ => ?_) ht
  subst ex
  obtain rfl : u = Value.ref a := rx
  refine getmeth_ok I1 ea hc hm l ?_
  refine PySem.W.callWith_K (first := [.ref a]) (h₀ := X.base) I.ok.mod.kin hm.kp (thn (ha.run pos pins s1 σ H1 _ I1 q) fun us s2 ⟨vs, H2, I2, r, q2⟩ => ⟨I2.kIn, ?_⟩) hst hpl
  exact L2.run_fnSD (us := .ref a :: us) (vs := .ref a :: vs) F (hr.mono hk) b d (hx σ) I2 (.cons rfl r) q2
theorem pe_mt0 {pl : Sem Bool} (c : Met X.prog X.w X.K X.mg X.base CX k C m sp dvs) (hr : Room j X.A) (hk : k ≤ j) (hx : ∀ σ, PassesAt CX X σ (E σ)) (he : PE X o ta)
    (ht : eval (.Call (.Attribute o m apos) [] [] pos) X.env = (do
      let ov ← eval o X.env
      standAt apos.atName
      let (f, first) ← holding [ov] (getMethod ov m pl)
      callWith pos f first (backTo pos (starEach [] X.env)) (backToKw pos (keywordEach [] X.env))) := by rfl) :
    PE X (.Call (.Attribute o m apos) [] [] pos) (tMt C m sp dvs E ta tNil) := by
  obtain ⟨f, fd, ps, ds, hc, hm, F, b, d⟩ := c.ex
  refine ⟨fun pins s σ H Q I h => ?_⟩
  refine PySem.W.methodCall_KW (pl := pl) (thn (he.run pins s σ H _ I h) fun u s1 ⟨x, H1, I1, rx, a, dx, fs, ex, ea, l, q⟩ => ?_) ht
  subst ex
  obtain rfl : u = Value.ref a := rx
  refine getmeth_ok I1 ea hc hm l ?_
  exact PySem.W.callWith_K0 (first := [.ref a]) I1.kIn hm.kp (L2.run_fnSD (us := [.ref a]) (vs := [.ref a]) F (hr.mono hk) b d (hx σ) I1 (.cons rfl .nil) q)
theorem run_mk {pins : List (Addr × Obj)} {σ : L2.St} {H : Hp} {s : Shared} {Q : VK} {us : List Value} {vs : List V} (M : Mk X.K C f) (F : FnOk X.prog X.w X.K X.mg X.base CX k f fd ps sp) (hr : Room (k + 1) X.A) (hb : Binds X.K fd ps ds) (hd : Vals dvs ds)
    (hx : PassesAt CX X σ (E σ)) (I : Inv X pins σ H s) (r : Vals vs us)
    (h : ∀ x dx, H x = none → H dx = none → dx ≠ x → sp (.ref x :: (vs ++ dvs)) (upd (upd H dx (.own x)) x (.ins C dx [])) (fun v H2 => v = .non ∧ Q (.ref x) H2) (E σ)) :
    wpAny (model X.prog X.w) X.A (call (.ref C) us) (EP X pins σ Q) X.xe s := by
  have hq := h (s.heap.objs.size + 1) s.heap.objs.size (I.hok.fresh (Nat.le_succ _)) (I.hok.fresh (Nat.le_refl _)) (Nat.ne_of_lt (Nat.lt_succ_self _))
  have I2 := Inv.made (C := C) I
  have r2 : Vals (V.ref (s.heap.objs.size + 1) :: (vs ++ dvs)) (Value.ref (s.heap.objs.size + 1) :: (us ++ ds)) := .cons rfl (r.append hd)
  have hl : (Value.ref (s.heap.objs.size + 1) :: us ++ ds).length = ps.length := by
    have e := r2.length
    rw [F.len _ _ _ _ hq] at e
    exact e.symm
  refine wpAny_call (make_map (f := f) I.kIn M.makes M.init (beq_iff_eq.mp M.fn) (codeAny_mono (F.run _ X.stack _ _ ⟨Value.ref (s.heap.objs.size + 1) :: us, []⟩ (Value.ref (s.heap.objs.size + 1) :: (us ++ ds)) _ _ (E σ) (hr.make C us [])
    (I2.env0.make C us []) (hb _ (Value.ref (s.heap.objs.size + 1) :: us) I2.kIn hl) r2 hq) fun r s' hq' => ?_))
  cases r with
  | error e => exact hx pins _ _ e s' I2 hq'
  | ok fl =>
    cases fl with
    | ret u =>
      obtain ⟨v, H', I3, rv, ev, q3⟩ := I2.after hq'
      subst ev
      exact ⟨rv, ⟨V.ref (s.heap.objs.size + 1), H', I3, rfl, q3⟩⟩
    | next => exact False.elim hq'
    | brk => exact False.elim hq'
    | cont => exact False.elim hq'
theorem pe_mk (c : Mak X.prog X.w X.K X.mg X.base CX k x C sp dvs) (hr : Room j X.A) (hk : k + 1 ≤ j) (hx : ∀ σ, PassesAt CX X σ (E σ)) (hg : Gl X x) (ha : PA X (e :: es) t)
    (hdb : (x == ("__debug__" : Str)) = false := by decide) (he : starEach (e :: es) X.env = (false, eval e X.env) :: starEach es X.env := by rfl) (hpl : (backTo pos (starEach es X.env)).any (·.1) = false := by rfl) :
    PE X (.Call (.Name x p) (e :: es) [] pos) (tMk C sp dvs E t) := by
  obtain ⟨f, fd, ps, ds, M, F, hm, b, d⟩ := c.ex
  refine ⟨fun pins s σ H Q I h => ?_⟩
  refine wpAny_Call_Name_kw (ld_glob I hg hm ?_ hdb)
  refine PySem.W.callWith_K (h₀ := X.base) I.ok.mod.kin M.kp (thn (ha.run pos pins s σ H _ I h) fun us s1 ⟨vs, H1, I1, r, q⟩ => ⟨I1.kIn, ?_⟩) he hpl
  exact run_mk M F (hr.mono hk) b d (hx σ) I1 r q
theorem pe_mk0 (c : Mak X.prog X.w X.K X.mg X.base CX k x C sp dvs) (hr : Room j X.A) (hk : k + 1 ≤ j) (hx : ∀ σ, PassesAt CX X σ (E σ)) (hg : Gl X x)
    (hdb : (x == ("__debug__" : Str)) = false := by decide) : PE X (.Call (.Name x p) [] [] pos) (tMk C sp dvs E tNil) := by
  obtain ⟨f, fd, ps, ds, M, F, hm, b, d⟩ := c.ex
  refine ⟨fun pins s σ H Q I h => ?_⟩
  refine wpAny_Call_Name_kw (ld_glob I hg hm ?_ hdb)
  exact PySem.W.callWith_K0 I.kIn M.kp (run_mk (us := []) M F (hr.mono hk) b d (hx σ) I .nil h)
end

/-! ### a field of an instance of a known class -/
def tFd (C : Addr) (ta : TE) (f : Str) : TE := fun σ H Q => ta σ H fun x H1 => ∃ a dx fs v, x = .ref a ∧ H1 a = some (.ins C dx fs) ∧ fs.lookup f = some v ∧ Q v H1
def sFd (C : Addr) (ta tv : TE) (f : Str) : TS := fun D σ H => tv σ H fun y H1 => ta σ H1 fun x H2 => ∃ a dx fs, x = .ref a ∧ H2 a = some (.ins C dx fs) ∧ fs.length < 1000 ∧ D.nx σ (upd H2 a (.ins C dx (putF f y fs)))
/-- e.f += value, whole numbers -/
def sFdAdd (C : Addr) (ta tv : TE) (f : Str) : TS := fun D σ H => ta σ H fun x H1 => ∃ a dx fs i, x = .ref a ∧ H1 a = some (.ins C dx fs) ∧ fs.lookup f = some (.int i) ∧
  tv σ H1 fun y H2 => ∃ j dx' fs', y = .int j ∧ H2 a = some (.ins C dx' fs') ∧ fs'.length < 1000 ∧ D.nx σ (upd H2 a (.ins C dx' (putF f (.int (i + j)) fs')))
section
variable {X : Cx} {o e value : Expr} {f : Str} {pos pos' tpos : Pos} {ta tv : TE} {C : Addr}
theorem pe_fd (c : Cls X.K C) (n : NoAttr X.K C f) (he : PE X e ta) (hb : attributeBase e f X.env (eval e X.env) = eval e X.env := by rfl) : PE X (.Attribute e f pos) (tFd C ta f) := by
  refine ⟨fun pins s σ H Q I h => ?_⟩
  refine attr_of hb (thn (he.run pins s σ H _ I h) fun u s1 ⟨x, H1, I1, rx, a, dx, fs, v, ex, ea, l, q⟩ => ?_)
  subst ex
  obtain rfl : u = Value.ref a := rx
  exact getattr_ok I1 ea c n l fun u' s2 I2 ru => ⟨v, H1, I2, ru, q⟩
theorem ps_fd (c : Cls X.K C) (n : NoAttr X.K C f) (ha : PE X o ta) (hv : PE X value tv) (hs : swapsWith value (some (.Attribute o f pos')) pos.line X.env = pure false := by rfl) : PS X (.Assign [.Attribute o f pos'] value pos) (sFd C ta tv f) := by
  refine ⟨fun pins s σ H D I h => ?_⟩
  refine plainObj_wpAny_Assign_Attribute (thn (hv.run pins s σ H _ I h) fun u s1 ⟨y, H1, I1, ry, q⟩ => thn (ha.run pins s1 σ H1 _ I1 q) fun ov s2 ⟨x, H2, I2, rx, a, dx, fs, ex, ea, l, q2⟩ => ?_) hs
  subst ex
  obtain rfl : ov = Value.ref a := rx
  exact setattr_ok I2 ea c n l ry fun s3 I3 => ⟨σ, _, I3, q2⟩
theorem ps_fdadd (c : Cls X.K C) (n : NoAttr X.K C f) (ha : PE X o ta) (hv : PE X value tv) : PS X (.AugAssign (.Attribute o f tpos) .Add value pos) (sFdAdd C ta tv f) := by
  refine ⟨fun pins s σ H D I h => ?_⟩
  refine wpAny_AugAssign_AttributeAny (thn (ha.run pins s σ H _ I h) fun ov s1 ⟨x, H1, I1, rx, a, dx, fs, i, ex, ea, l, q⟩ => ?_)
  subst ex
  obtain rfl : ov = Value.ref a := rx
  refine getattr_ok I1 ea c n l fun u s2 I2 ru => thn (hv.run pins s2 σ H1 _ I2 q) fun w3 s3 ⟨y, H2, I3, ry, j, dx', fs', ey, ea', l', q3⟩ => ?_
  subst ey
  refine thn (in_add (X := X) pins s3 σ H2 (.int i) (.int j) u w3 (fun z H3 => z = .int (i + j) ∧ H3 = H2) I3 ru ry ⟨i, j, rfl, rfl, rfl, rfl⟩) fun w4 s4 ⟨z, H3, I4, rz, ez, eH⟩ => ?_
  subst ez
  subst eH
  exact setattr_ok I4 ea' c n l' rz fun s5 I5 => ⟨σ, _, I5, q3⟩
end

/-! ### constants of the module -/
section
variable {X : Cx} {x : Str} {pos : Pos}
theorem pe_gi {i : Int} (hg : Gl X x) (h : ∃ t, X.mg x = some (.int i t)) (hd : (x == ("__debug__" : Str)) = false := by decide) : PE X (.Name x pos) (tC (.int i)) := by
  obtain ⟨t, h⟩ := h
  exact pe_glob hg h ⟨t, rfl⟩ hd
theorem pe_gs {z : Str} (hg : Gl X x) (h : ∃ t, X.mg x = some (.str z t)) (hd : (x == ("__debug__" : Str)) = false := by decide) : PE X (.Name x pos) (tC (.str z)) := by
  obtain ⟨t, h⟩ := h
  exact pe_glob hg h ⟨t, rfl⟩ hd
theorem pe_gr {a : Addr} (hg : Gl X x) (h : X.mg x = some (.ref a)) (hd : (x == ("__debug__" : Str)) = false := by decide) : PE X (.Name x pos) (tC (.ref a)) := pe_glob hg h rfl hd
theorem pe_ty {T : String} (hg : Gl X x) (hm : X.mg x = none) (hv : bootBuiltins x = some (.type T)) (hn : x ≠ "__name__" := by decide) (hd : (x == ("__debug__" : Str)) = false := by decide) : PE X (.Name x pos) (tC (.ty T)) := pe_bltn hg hm hv rfl hn hd
end

/-! ### raising: own classes over HallError, made with a text -/
/-- what the written part says of an error class -/
structure ErrC (K : PySem.W.Frag) (C : Addr) : Prop where
  x : PySem.W.excIn K C He.veBase "ValueError.__new__" = true
  k : PySem.W.keepIn K (.ref C) = true
  b : PySem.W.subIn K (.ref C) (.type "BaseException") = some true
  t : PySem.W.typeIn K (.ref C) = some (.type "type")
def tRs (C : Addr) (W : WX) : TS := fun _ σ H => W (.ref C) none σ H
theorem ps_rs {X : Cx} {C : Addr} {W : WX} {x m : Str} {j : Nat} {p p2 pos pos2 : Pos} (hc : X.calm = true) (tk : Takes X W) (T : ErrC X.K C) (gC : X.mg x = some (.ref C)) (hg : Gl X x) (hdb : (x == ("__debug__" : Str)) = false := by decide) :
    PS X (.Raise (some (.Call (.Name x p) [.Constant (.str m) j p2] [] pos)) none pos2) (tRs C W) :=
  ps_raise hc tk (pmk_own PySem.F.excBase_ValueError T.x gC T.k (raises_own T.b T.t) hg hdb)

/-! ### isinstance of a caught error -/
def rIsX (K : PySem.W.Frag) (a : Addr) (cls : Value) (d : Option Addr) : List V → Hp → VK → Prop := fun xs H Q => ∃ (D : Addr) (c : V) (cv : Value) (b : Bool), cls = .ref D ∧ d = none ∧ ExcC K D ∧ xs = [.ref a, c] ∧ ClsV c cv ∧ PySem.W.kitOne K (.ref D) cv = some b ∧ Q (.bl b) H
def rIsXT (K : PySem.W.Frag) (a : Addr) (cls : Value) (d : Option Addr) : List V → Hp → VK → Prop := fun xs H Q => ∃ (D tp : Addr) (cs : List V) (us : List Value) (b : Bool), cls = .ref D ∧ d = none ∧ ExcC K D ∧ xs = [.ref a, .ref tp] ∧ H tp = some (.tup cs) ∧ Paired ClsV cs us ∧ PySem.W.kitAny K (.ref D) us = some b ∧ Q (.bl b) H
section
variable {X : Cx} {a : Addr} {oe : Obj} {cls : Value} {d : Option Addr} {pn : List (Addr × Obj)}
theorem inst_exc {pins : List (Addr × Obj)} {s : Shared} {σ : L2.St} {H : Hp} {D : Addr} (hz : Zc (.ref D) none oe) (hf : ∃ vs, oe.data = .fields vs) (I : Inv (X.suite a ((a, oe) :: pn)) pins σ H s) : PySem.W.InstAt s.heap a oe D none := by
  obtain ⟨hget, _⟩ := I.pin (a, oe) (List.mem_append.mpr (.inl List.mem_cons_self))
  obtain ⟨vs, hv⟩ := hf
  obtain ⟨oc, od, oda, osl⟩ := oe
  obtain ⟨h1, h2⟩ := hz
  dsimp only at h1 h2 hv
  subst h1 h2 hv
  exact ⟨hget, rfl, rfl, trivial⟩
theorem call_isX (hz : Zc cls d oe) (hf : ∃ vs, oe.data = .fields vs) : CallR (X.suite a ((a, oe) :: pn)) (.builtin "isinstance") (rIsX X.K a cls d) := by
  intro pins s σ H xs us Q I r h
  obtain ⟨D, c, cv, b, rfl, rfl, C, rfl, hcv, e, q⟩ := h
  obtain ⟨u1, u2, rfl, r1, r2⟩ := vals2 r
  have e2 := hcv.eq r2
  subst e2
  cases (show u1 = Value.ref a from r1)
  exact PySem.W.kia_one (PySem.W.handS_kitx_exc C.hg C.hk C.hs C.hd C.ha C.hn C.ht C.hm) I.kIn (inst_exc hz hf I) e (fun z => nomatch z) fun tk => ⟨.bl b, H, I.kept (t' := tk) fun _ _ z => z, rfl, q⟩
theorem call_isXT (hz : Zc cls d oe) (hf : ∃ vs, oe.data = .fields vs) : CallR (X.suite a ((a, oe) :: pn)) (.builtin "isinstance") (rIsXT X.K a cls d) := by
  intro pins s σ H xs us Q I r h
  obtain ⟨D, tp, cs, ws, b, rfl, rfl, C, rfl, hT, k, e, q⟩ := h
  obtain ⟨u1, u2, rfl, r1, r2⟩ := vals2 r
  cases (show u2 = Value.ref tp from r2)
  cases (show u1 = Value.ref a from r1)
  obtain ⟨_, its, rv, o, h1, h2, n, h3⟩ := (show ObjOk X.prog X.w H s.heap tp (.tup cs) from I.hok tp _ hT)
  have e3 := ClsV.all k rv
  subst e3
  obtain ⟨oc, od, dt, sl⟩ := o
  simp only at h2 h3
  subst h2 h3
  exact PySem.W.kia_tup (PySem.W.handS_kitx_exc C.hg C.hk C.hs C.hd C.ha C.hn C.ht C.hm) I.kIn (inst_exc hz hf I) h1 e (fun z => nomatch z) fun tk => ⟨.bl b, H, I.kept (t' := tk) fun _ _ z => z, rfl, q⟩
end
end U

set_option Elab.async false
set_option linter.all false
set_option maxRecDepth 100000
set_option maxHeartbeats 4000000
/-! Names for the readings, so that readings can be printed by a program. -/
namespace U
open PySem PySem.Spec PyProof.Rows L2
abbrev rAddI : R2 := rI0 fun i j => .int (i + j)
abbrev rSubI : R2 := rI0 fun i j => .int (i - j)
abbrev rMulI : R2 := rI CMul fun i j => .int (i * j)
abbrev rFdivI : R2 := rI CDivW fun i j => .int (i / j)
abbrev rModI : R2 := rI (fun _ j => 0 < j) fun i j => .int (i % j)
abbrev rPowI : R2 := rI CPow fun i j => .int (i ^ j.toNat)
abbrev rLtI : R2 := rI0 fun i j => .bl (decide (i < j))
abbrev rLeI : R2 := rI0 fun i j => .bl (decide (i ≤ j))
abbrev rGtI : R2 := rI0 fun i j => .bl (decide (j < i))
abbrev rGeI : R2 := rI0 fun i j => .bl (decide (j ≤ i))
abbrev rIsNn : R2 := fun x y H Q => y = .non ∧ Q (.bl (decide (x = .non))) H
abbrev rNotNn : R2 := fun x y H Q => y = .non ∧ Q (.bl (!decide (x = .non))) H
abbrev rAddS : R2 := fun x y H Q => ∃ i j, x = .str i ∧ y = .str j ∧ i.length + j.length ≤ sizeLine ∧ Q (.str (i ++ j)) H
abbrev rInSg : R2 := fun x y H Q => ∃ (c : Nat) (z : Str), x = .str ⟨#[c]⟩ ∧ y = .str z ∧ Q (.bl (decide (c ∈ z.cps.toList))) H
abbrev rNiSg : R2 := fun x y H Q => ∃ (c : Nat) (z : Str), x = .str ⟨#[c]⟩ ∧ y = .str z ∧ Q (.bl (!decide (c ∈ z.cps.toList))) H
abbrev RC := List V → Hp → VK → Prop
abbrev RM := V → List V → Hp → VK → Prop
abbrev rAbs : RC := fun xs H Q => ∃ i, xs = [.int i] ∧ Q (.int (if i < 0 then -i else i)) H
abbrev rMax2 : RC := fun xs H Q => ∃ i j, xs = [.int i, .int j] ∧ Q (.int (if j > i then j else i)) H
abbrev rMin2 : RC := fun xs H Q => ∃ i j, xs = [.int i, .int j] ∧ Q (.int (if j < i then j else i)) H
abbrev rDivmod : RC := fun xs H Q => ∃ i j, xs = [.int i, .int j] ∧ CDivP i j ∧ ∀ p, H p = none → Q (.ref p) (upd H p (.tup [.int (i / j), .int (i % j)]))
theorem two200 : (2 : Nat) ^ 200 = 1606938044258990275541962092341162602522202993782792835301376 := by decide
theorem cdw {i j : Int} (h0 : 0 < j) (h1 : j ≤ 1000000000000000000000000000000000000000000000000000000000000) : CDivW i j := by
  refine wide_div (b := 200) h0 ?_ (by decide) (by decide)
  rw [two200]
  omega
theorem cdp {i j : Int} (h0 : 0 < j) (h1 : j ≤ 1000000000000000000000000000000000000000000000000000000000000) : CDivP i j := ⟨h0, PyProof.noPylong_of_log2 (cdw (i := i) h0 h1).2⟩
abbrev rLenSeq (K : PySem.W.Frag) : RC := fun xs H Q => ∃ p ys, xs = [.ref p] ∧ (SqL K H p ys ∨ SqT K H p ys) ∧ Q (.int ys.length) H
abbrev rLenStr : RC := fun xs H Q => ∃ z, xs = [.str z] ∧ z.length ≤ sizeLine ∧ Q (.int z.length) H
abbrev rLenDc : RC := fun xs H Q => ∃ a kvs, xs = [V.ref a] ∧ H a = some (.dK kvs) ∧ Q (.int kvs.length) H
abbrev rListOf (K : PySem.W.Frag) : RC := fun xs H Q => ∃ p ys, xs = [.ref p] ∧ (SqL K H p ys ∨ SqT K H p ys) ∧ ∀ l, H l = none → Q (.ref l) (upd H l (.lst ys))
abbrev rTupleOf (K : PySem.W.Frag) : RC := fun xs H Q => ∃ p ys, xs = [.ref p] ∧ ((SqL K H p ys ∧ ∀ l, H l = none → Q (.ref l) (upd H l (.tup ys))) ∨ (SqT K H p ys ∧ Q (.ref p) H))
abbrev rStrInt : RC := fun xs H Q => ∃ i, xs = [.int i] ∧ i.natAbs.log2 < 1920 ∧ Q (.str (toString i)) H
abbrev rInt1 : RC := fun xs H Q => (∃ i, xs = [.int i] ∧ Q (.int i) H) ∨ ∃ k, xs = [.bl k] ∧ Q (.int (if k then 1 else 0)) H
abbrev rIntStr : RC := fun xs H Q => ∃ a n, xs = [.str a] ∧ PySem.intText? a = some n ∧ a.length ≤ 640 ∧ Q (.int n) H
abbrev mJoin (K : PySem.W.Frag) : RM := fun x xs H Q => ∃ a p, ∃ ys : List Str, x = .str a ∧ xs = [.ref p] ∧ (SqL K H p (ys.map V.str) ∨ SqT K H p (ys.map V.str)) ∧
  (ys.map (·.length)).sum + ys.length * a.length ≤ 16777216 ∧ Q (.str (Txt.join a ys)) H
abbrev mPartition : RM := fun x xs H Q => ∃ a b, x = .str a ∧ xs = [.str b] ∧ (b.length == 0) = false ∧ a.length ≤ sizeLine ∧
  ∀ p, H p = none → Q (.ref p) (upd H p (.tup [.str (Txt.partition a b).1, .str (Txt.partition a b).2.1, .str (Txt.partition a b).2.2]))
abbrev mSplit : RM := fun x xs H Q => ∃ a b, x = .str a ∧ xs = [.str b] ∧ (b.length == 0) = false ∧ a.length + 2 ≤ sizeLine ∧ rNewStrs (Txt.split a b) H Q
abbrev mStarts : RM := fun x xs H Q => ∃ a b, x = .str a ∧ xs = [.str b] ∧ Q (.bl (Txt.startswith a b)) H
abbrev mEnds : RM := fun x xs H Q => ∃ a b, x = .str a ∧ xs = [.str b] ∧ Q (.bl (Txt.endswith a b)) H
abbrev rMulS : R2 := fun x y H Q => ∃ a n, x = .str a ∧ y = .int n ∧ MulOk a n ∧ Q (.str (Txt.mul a n)) H
theorem op_mulS {X : Cx} : OpR X (binaryOp .Mult) rMulS := by
  intro pins s σ H x y v u Q I rx ry h
  obtain ⟨a, n, rfl, rfl, ok, q⟩ := h
  obtain ⟨t, rfl⟩ := rx
  obtain ⟨t', rfl⟩ := ry
  exact SB.mul ok fun t2 k => ⟨.str _, H, I.tok k, ⟨t2, rfl⟩, q⟩

/-! ### d.keys() as a value; sorted(d.keys()) -/
def KeysO (p d : Addr) : HO := .ext fun h => PySem.W.KdlKeysView h p d
def tKeysV (td : TE) : TE := fun σ H Q => td σ H fun x H1 => ∃ d kvs, x = .ref d ∧ Rd H1 d (.dK kvs) ∧ ∀ p, H1 p = none → Q (.ref p) (upd H1 p (KeysO p d))
theorem pe_keysV {X : Cx} {e : Expr} {td : TE} {apos cpos : Pos} (he : PE X e td) (hbase : attributeBase e "keys" X.env (eval e X.env) = eval e X.env := by rfl) (hline : (apos.endLine == cpos.line) = true := by rfl) : PE X (.Call (.Attribute e "keys" apos) [] [] cpos) (tKeysV td) := by
  refine ⟨fun pins s σ H Q I h => ?_⟩
  refine wpAny_Call_method (T := "dict") (id := "dict.keys") hbase rfl hline F.plainAttrs_dict F.slot_dict_keys F.type_dict_keys (thn (he.run pins s σ H _ I h) fun u s1 ⟨x, H1, I1, rx, d, kvs, ex, hd, q⟩ => ?_)
  subst ex
  obtain rfl : u = Value.ref d := rx
  obtain ⟨z, hs, vs, rel, dd⟩ := dk_rd I1.hok hd
  refine ⟨dd.typeIs, dd.mapOf.noDict, ?_⟩
  have ho : (s1.heap.push { cls := .type "dict_keys", data := .fields #[.ref d] }).get? s1.heap.objs.size = some { cls := .type "dict_keys", data := .fields #[.ref d] } := Heap.get?_push_size _ rfl
  have I2 : Inv X pins σ (upd H1 s1.heap.objs.size (KeysO s1.heap.objs.size d)) { s1 with heap := s1.heap.push { cls := .type "dict_keys", data := .fields #[.ref d] } } :=
    I1.laid (t' := s1.toks) (fun b ob q => Heap.get?_push_of_some _ q) (Nat.le_refl _) ⟨⟨_, ho, rfl, rfl⟩, ⟨_, ho⟩, fun h1 h2 ⟨o, e1, e2⟩ k => ⟨o, k o e1, e2⟩⟩
  show wpAny _ _ (callWith cpos (.builtin "dict.keys") [.ref d] [] []) _ X.xe s1
  exact method_meetsIn F.slot_dict_keys F.entry_dict_keys rfl (PySem.evalArgs_none ⟨rfl, dd.typeIs, F.args_dict_keys_1 _, _, PySem.W.kdl_meets_keys (mixKind X.prog X.w) d hs, ⟨vs, dd⟩, ⟨.ref s1.heap.objs.size, _, I2, rfl, q _ (I1.hok.fresh (Nat.le_refl _))⟩⟩)
/-- sorted(d.keys()), fewer than 64 whole numbers -/
abbrev rSortedKV : RC := fun xs H Q => ∃ (a d : Addr) (kvs : List (Key × V)) (ks : List Int), xs = [.ref a] ∧ H a = some (KeysO a d) ∧ Rd H d (.dK kvs) ∧ kvs.map (·.1) = ks.map Sum.inl ∧ ks.length < 64 ∧
  ∀ (ys : List Int) (p : Addr), ys.Perm ks → ys.Pairwise (· ≤ ·) → H p = none → Q (.ref p) (upd H p (.lst (ys.map V.int)))
theorem call_sortedKV {X : Cx} (hcalm : X.calm = true) : CallR X (.builtin "sorted") rSortedKV := by
  intro pins s σ H xs us Q I r q
  obtain ⟨a, d, kvs, ks, ex, ha, hd, hks, h64, q⟩ := q
  subst ex
  obtain ⟨u, eu, rx⟩ := vals1 r
  subst eu
  cases rx
  obtain ⟨z, lo, vs, rel, dd⟩ := dk_rd I.hok hd
  obtain ⟨ep, hat⟩ := dd.dictAt
  obtain ⟨view, _, _⟩ := (show ObjOk X.prog X.w H s.heap a (KeysO a d) from I.hok a _ ha)
  have hkeys : vs.map (·.1) = ks.map Sum.inl := rel.keys.symm.trans hks
  have hl : vs.length = ks.length := by
    have e := congrArg List.length hkeys
    rw [List.length_map, List.length_map] at e
    exact e
  have h16 : vs.length ≤ sizeLine := by rw [hl, sizeLine_eq]; omega
  refine Calls.call_function_entry PyProof.Rows.kind_sorted PyProof.Rows.plain_sorted PyProof.Rows.entry_sorted (PyProof.Rows.args_sorted1 _) ?_
  unfold Builtin.«sorted»
  refine wpAny_bind (m := checkCount "sorted" 1 1 _) (wpAny_pure ?_)
  refine wpAny_bind (PySem.W.kdu_collect (A := X.A.in1) (PySem.W.kdl_keys (r := a) (d := d) (knd := mixKind X.prog X.w) (kvs := vs) (ep := ep)) (I.ok.hd hcalm) ⟨view, hat⟩ h16 fun h' tk acc hk hacc => ?_)
  have hal : acc.toList.length = ks.length := by rw [Array.length_toList, hacc.1, hl]
  have hS : IntsAre acc.toList ks := ints_each hal fun j v e => by
    obtain ⟨k, x, e1, e2⟩ := hacc.2 j v (by rw [← Array.getElem?_toList]; exact e)
    have e3 : (vs.map (·.1))[j]? = some k := by rw [List.getElem?_map, e1]; rfl
    rw [hkeys, List.getElem?_map] at e3
    cases e4 : ks[j]? with
    | none => rw [e4] at e3; cases e3
    | some y =>
      rw [e4] at e3
      have e5 : Sum.inl y = k := Option.some.inj e3
      subst e5
      rcases keyIs_shape (show keyIs (Sum.inl y) v = true from e2) with ⟨i, t, ek, ev⟩ | ⟨z, t, ek, ev⟩
      · cases ek
        exact ⟨y, t, rfl, ev⟩
      · cases ek
  have I1 : Inv X pins σ H { s with heap := h', toks := tk } := I.kept hk
  refine wpAny_bind (wpAny_newList ?_ (by rw [hal, sizeLine_eq]; omega))
  have hoL : (h'.push (seqObj "list" acc.toList.toArray 0)).get? h'.objs.size = some (seqObj "list" acc.toList.toArray 0) := Heap.get?_push_size _ rfl
  show wpAny _ _ _ _ _ { s with heap := h'.push (seqObj "list" acc.toList.toArray 0), toks := tk }
  refine wpAny_bind (wpAny_holding (wpAny_call_entry PyProof.Rows.slot_list_sort ⟨_, hoL, rfl⟩ PyProof.Rows.entry_list_sort
    (PyProof.Rows.list_sort_tree (s := { s with heap := h'.push (seqObj "list" acc.toList.toArray 0), toks := tk }) hoL hS (by rw [hal]; exact h64) fun out ys g1 g2 g3 => ⟨_, rfl, ?_⟩) (PyProof.Rows.args_list_sort _)))
  obtain ⟨e', he'⟩ := PyProof.Rows.sortedHeap_at (vs := acc.toList) (out := out) hoL
  have hlen : (ys.map V.int).length ≤ sizeLine := by
    rw [List.length_map, g2.length_eq]
    exact Nat.le_trans (Nat.le_of_lt h64) (by decide)
  refine wpAny_pure ⟨_, rfl, .ref h'.objs.size, upd H h'.objs.size (.lst (ys.map V.int)), I1.laid (t' := tk) (fun b u e => ?_) (Nat.le_refl _)
    (show ObjOk X.prog X.w _ _ _ (.lst (ys.map V.int)) from ⟨hlen, out.toList, e', vals_of_ints g1, by rw [Array.toArray_toList]; exact he'⟩), rfl, q ys _ g2 g3 (I1.hok.fresh (Nat.le_refl _))⟩
  have hb : b < h'.objs.size := Heap.lt_size e
  rw [PyProof.Rows.sortedHeap_old (Nat.ne_of_lt hb) (by rw [size_push']; exact Nat.lt_succ_of_lt hb)]
  exact Heap.get?_push_of_some _ e

/-! ### errors -/
theorem psL {X : Cx} : ∀ σ, PassesAt (L2.CX X.prog X.w) X σ (ES0 σ) := fun _ _ _ _ _ _ _ h => by
  obtain ⟨_, _, _, _, _, _, _, _, _, _, _, _, z⟩ := h
  exact z.elim
def errNames : List Str := ["NoName", "BadKind", "NoText", "NoPerson", "Taken", "NoKind", "NoMatter", "NoThing", "NoWay", "NoRows", "NoDay", "NoHold", "NoTelling", "NoAnswer", "Answered"]
def excB (K : PySem.W.Frag) (D : Addr) : Bool :=
  He.eqO (PySem.W.findIn K (.ref D) "__getattribute__") (some (some (.builtin "BaseException.__getattribute__"))) && (He.eqO (PySem.W.findIn K (.ref D) "__getattr__") (some none) &&
  (decide (PySem.W.subIn K (.ref D) (.type "BaseException") = some true) && (PySem.W.hasDictIn K D && (He.eqO (PySem.W.findIn K (.ref D) "__class__") (some (some (.builtin "object.__class__"))) &&
  (He.eqO (PySem.W.specialIn K (.builtin "object.__class__") "__get__") (some (some (.builtin "getset_descriptor.__get__"))) && (decide (PySem.W.takesIn K (.builtin "object.__class__") = some true) && decide (PySem.W.mroIn K D (.type "object") = some true)))))))
theorem excB_ok {K : PySem.W.Frag} {D : Addr} (h : excB K D = true) : ExcC K D := by
  obtain ⟨h1, h⟩ := He.ba h
  obtain ⟨h2, h⟩ := He.ba h
  obtain ⟨h3, h⟩ := He.ba h
  obtain ⟨h4, h⟩ := He.ba h
  obtain ⟨h5, h⟩ := He.ba h
  obtain ⟨h6, h⟩ := He.ba h
  obtain ⟨h7, h8⟩ := He.ba h
  exact ⟨He.eqO_ok h1, He.eqO_ok h2, of_decide_eq_true h3, h4, He.eqO_ok h5, He.eqO_ok h6, of_decide_eq_true h7, of_decide_eq_true h8⟩
/-- what is told of the error classes -/
structure ErrK (K : PySem.W.Frag) : Prop where
  exc : ∀ x ∈ errNames, ExcC K (He.ga K x)
  exm : ∀ x ∈ errNames, PySem.W.exmOne K (.ref (He.ga K x)) (.ref (He.ga K "HallError")) = some true
  kit : ∀ x ∈ errNames, ∀ y ∈ errNames, PySem.W.kitOne K (.ref (He.ga K x)) (.ref (He.ga K y)) = some (decide (x = y))
  kitH : ∀ x ∈ errNames, PySem.W.kitOne K (.ref (He.ga K x)) (.ref (He.ga K "HallError")) = some true
  kitV : ∀ x ∈ errNames, PySem.W.kitOne K (.ref (He.ga K x)) (.type "ValueError") = some true
def errB (K : PySem.W.Frag) : Bool := errNames.all fun x => excB K (He.ga K x) && (decide (PySem.W.exmOne K (.ref (He.ga K x)) (.ref (He.ga K "HallError")) = some true) &&
  ((errNames.all fun y => decide (PySem.W.kitOne K (.ref (He.ga K x)) (.ref (He.ga K y)) = some (decide (x = y)))) && (decide (PySem.W.kitOne K (.ref (He.ga K x)) (.ref (He.ga K "HallError")) = some true) && decide (PySem.W.kitOne K (.ref (He.ga K x)) (.type "ValueError") = some true))))
theorem errB_ok {K : PySem.W.Frag} (h : errB K = true) : ErrK K := by
  have h1 := List.all_eq_true.mp h
  refine ⟨fun x hx => excB_ok (He.ba (h1 x hx)).1, fun x hx => of_decide_eq_true (He.ba (He.ba (h1 x hx)).2).1, fun x hx y hy => ?_, fun x hx => ?_, fun x hx => ?_⟩
  · exact of_decide_eq_true (List.all_eq_true.mp (He.ba (He.ba (He.ba (h1 x hx)).2).2).1 y hy)
  · exact of_decide_eq_true (He.ba (He.ba (He.ba (He.ba (h1 x hx)).2).2).2).1
  · exact of_decide_eq_true (He.ba (He.ba (He.ba (He.ba (h1 x hx)).2).2).2).2
end U

set_option Elab.async false
set_option linter.all false
set_option maxRecDepth 100000
set_option maxHeartbeats 4000000
/-! Helpers for the readings: what stays, comprehensions whose element leaves the heap alone, texts, types. -/
namespace U
open PySem PySem.Spec PyProof.Rows L2

/-! ### what stays -/
/-- all that was tracked stays, but what stands at l -/
structure Keep (l : List Addr) (H H' : Hp) : Prop where
  k : ∀ b o, H b = some o → b ∉ l → H' b = some o
theorem Keep.refl {l : List Addr} {H : Hp} : Keep l H H := ⟨fun _ _ h _ => h⟩
theorem Keep.trans {l : List Addr} {H H1 H2 : Hp} (a : Keep l H H1) (b : Keep l H1 H2) : Keep l H H2 := ⟨fun c o h n => b.k c o (a.k c o h n) n⟩
theorem Keep.same {l : List Addr} {H H1 : Hp} (a : Same H H1) : Keep l H H1 := ⟨fun c o h _ => a c o h⟩
theorem Keep.mono {l l' : List Addr} {H H1 : Hp} (a : Keep l H H1) (h : ∀ x, x ∈ l → x ∈ l') : Keep l' H H1 := ⟨fun c o e n => a.k c o e fun z => n (h c z)⟩
theorem Keep.put {l : List Addr} {H H1 : Hp} {p : Addr} {o : HO} (a : Keep l H H1) (h : p ∈ l) : Keep l H (upd H1 p o) := ⟨fun c u e n => by
  have z : c ≠ p := fun z => n (by rw [z]; exact h)
  rw [upd_ne z]
  exact a.k c u e n⟩
theorem Keep.new {l : List Addr} {H H1 : Hp} {p : Addr} {o : HO} (a : Keep l H H1) (h : H p = none) : Keep l H (upd H1 p o) := ⟨fun c u e n => by
  rw [upd_ne (ne_of_none e h)]
  exact a.k c u e n⟩
theorem Keep.free {l : List Addr} {H H1 : Hp} {p : Addr} (a : Keep l H H1) (n : p ∉ l) (h : H1 p = none) : H p = none := by
  cases e : H p with
  | none => rfl
  | some o =>
    rw [a.k p o e n] at h
    cases h
/-- what wasn't there ahead may be changed: all as before -/
theorem Keep.drop {p : Addr} {H0 H H1 : Hp} (a : Keep [p] H H1) (s : Same H0 H) (n : H0 p = none) : Same H0 H1 := fun c o e => a.k c o (s c o e) (by
  intro z
  rw [List.mem_singleton.mp z, n] at e
  cases e)
theorem Keep.seq {K : PySem.W.Frag} {l : List Addr} {H H1 : Hp} {a : Addr} {xs : List V} (k : Keep l H H1) (n : a ∉ l) (h : SqL K H a xs) : SqL K H1 a xs := by
  rcases h with (h | ⟨o, h⟩) | h
  · exact .inl (.inl (k.k _ _ h n))
  · exact .inl (.inr ⟨o, k.k _ _ h n⟩)
  · exact .inr h
theorem same_new {H : Hp} {p : Addr} {o : HO} (h : H p = none) : Same H (upd H p o) := fun c u e => by
  rw [upd_ne (ne_of_none e h)]
  exact e
theorem Same.new {H H1 : Hp} {p : Addr} {o : HO} (a : Same H H1) (h : H1 p = none) : Same H (upd H1 p o) := a.trans (same_new h)
theorem _root_.L2.Same.new {H H1 : Hp} {p : Addr} {o : HO} (a : Same H H1) (h : H1 p = none) : Same H (upd H1 p o) := a.trans (same_new h)
/-- an object that H doesn't know may change -/
theorem Same.mut {H H1 : Hp} {p : Addr} {o : HO} (a : Same H H1) (h : H p = none) : Same H (upd H1 p o) := fun c u e => by
  rw [upd_ne (ne_of_none e h)]
  exact a c u e
theorem seq_upd {K : PySem.W.Frag} {H : Hp} {a p : Addr} {xs : List V} {o : HO} (h : SqL K H a xs) (n : H p = none) : SqL K (upd H p o) a xs := (same_new n).seq h
theorem Same.seqT {K : PySem.W.Frag} {H H' : Hp} {a : Addr} {xs : List V} (e : Same H H') (h : SqT K H a xs) : SqT K H' a xs := by
  rcases h with (h | ⟨o, h⟩) | h
  · exact .inl (.inl (e _ _ h))
  · exact .inl (.inr ⟨o, e _ _ h⟩)
  · exact .inr h

/-! ### slots -/
theorem wipe1 {σ : L2.St} {j : Nat} {v : Option V} : wipe ((wipe σ [j]).set j v) [j] = wipe σ [j] := by
  show ((σ.set j none).set j v).set j none = σ.set j none
  rw [List.set_set, List.set_set]

/-! ### comprehensions whose test and element leave the heap alone -/
section
variable {K : PySem.W.Frag} {tt : TT} {te : TE} {σ : L2.St} {H1 : Hp} {D : Addr} {Q : Hp → Prop} {j : Nat}
/-- over a text -/
theorem lc_str {x : Str} {g : TG} {vs : List Nat} (Pv : Nat → Hp → Prop) (h0 : Pv 0 (upd H1 D (.lst [])))
    (hs : ∀ i c H, x.cps[i]? = some c → Pv i H → g (.str ⟨#[c]⟩) (wipe σ vs) H fun σ2 H2 => wipe σ2 vs = wipe σ vs ∧ tt σ2 H2 fun b H3 =>
      if b = true then te σ2 H3 fun y H4 => ∃ acc, H4 D = some (.lst acc) ∧ acc.length < sizeLine ∧ Pv (i + 1) (upd H4 D (.lst (acc ++ [y]))) else Pv (i + 1) H3) (hd : ∀ H, Pv x.cps.size H → Q H) :
    ∃ W : Nat → Nat → Hp → Prop, (∃ m, W 0 m (upd H1 D (.lst []))) ∧ ∀ i m H, W i m H →
      ((Its x).stop i H ∧ Q H) ∨ ((Its x).go i H ∧ ∃ Nx : Hp → Prop, (∀ H', Nx H' → ∃ m', m' < m ∧ W (i + 1) m' H') ∧ ∀ y H', (Its x).yld i H y H' → g y (wipe σ vs) H' fun σ2 H2 => wipe σ2 vs = wipe σ vs ∧ tt σ2 H2 fun b H3 =>
        if b = true then te σ2 H3 fun y H4 => ∃ acc, H4 D = some (.lst acc) ∧ acc.length < sizeLine ∧ Nx (upd H4 D (.lst (acc ++ [y]))) else Nx H3) := by
  refine ⟨fun i m H => m = x.cps.size - i ∧ i ≤ x.cps.size ∧ Pv i H, ⟨x.cps.size, by simp, Nat.zero_le _, h0⟩, ?_⟩
  rintro i m H ⟨rfl, hi, p⟩
  by_cases hlt : i < x.cps.size
  · refine .inr ⟨hlt, Pv (i + 1), fun H' p' => ⟨x.cps.size - (i + 1), by omega, rfl, hlt, p'⟩, fun y H' z => ?_⟩
    obtain ⟨e, c, hc, rfl⟩ := z
    subst e
    exact hs i c _ hc p
  · have e : i = x.cps.size := by omega
    subst e
    exact .inl ⟨Nat.le_refl _, hd H p⟩
theorem take_snoc {α : Type} {l : List α} {i : Nat} {x : α} (h : l[i]? = some x) : l.take (i + 1) = l.take i ++ [x] := by
  rw [List.take_add_one, h]
  rfl
theorem lcs_fm {x : Str} (p : Nat → Bool) (f : Nat → V) (hx : x.cps.size ≤ 1000000)
    (ht : ∀ c acc (R : Bool → Hp → Prop), c ∈ x.cps.toList → R (p c) (upd H1 D (.lst acc)) → tt ((wipe σ [j]).set j (some (.str ⟨#[c]⟩))) (upd H1 D (.lst acc)) R)
    (he : ∀ c acc (R : VK), c ∈ x.cps.toList → p c = true → R (f c) (upd H1 D (.lst acc)) → te ((wipe σ [j]).set j (some (.str ⟨#[c]⟩))) (upd H1 D (.lst acc)) R)
    (hd : Q (upd H1 D (.lst ((x.cps.toList.filter p).map f)))) :
    ∃ W : Nat → Nat → Hp → Prop, (∃ m, W 0 m (upd H1 D (.lst []))) ∧ ∀ i m H, W i m H →
      ((Its x).stop i H ∧ Q H) ∨ ((Its x).go i H ∧ ∃ Nx : Hp → Prop, (∀ H', Nx H' → ∃ m', m' < m ∧ W (i + 1) m' H') ∧ ∀ y H', (Its x).yld i H y H' → gName j y (wipe σ [j]) H' fun σ2 H2 => wipe σ2 [j] = wipe σ [j] ∧ tt σ2 H2 fun b H3 =>
        if b = true then te σ2 H3 fun y H4 => ∃ acc, H4 D = some (.lst acc) ∧ acc.length < sizeLine ∧ Nx (upd H4 D (.lst (acc ++ [y]))) else Nx H3) := by
  refine lc_str (g := gName j) (vs := [j]) (fun i H => H = upd H1 D (.lst (((x.cps.toList.take i).filter p).map f))) (by simp) (fun i c H hc e => ?_) (fun H e => ?_)
  · subst e
    have hc' : x.cps.toList[i]? = some c := by rw [Array.getElem?_toList]; exact hc
    have hm : c ∈ x.cps.toList := List.mem_of_getElem? hc'
    refine ⟨wipe1, ht c _ _ hm ?_⟩
    have hlen : (((x.cps.toList.take i).filter p).map f).length < sizeLine := by
      rw [List.length_map, sizeLine_eq]
      have h1 := List.length_filter_le p (x.cps.toList.take i)
      rw [List.length_take] at h1
      have h2 : i < x.cps.toList.length := (List.getElem?_eq_some_iff.mp hc').1
      rw [Array.length_toList] at h2
      omega
    by_cases hp : p c = true
    · rw [hp]
      refine iteT (he c _ _ hm hp ⟨_, upd_same, hlen, ?_⟩)
      rw [upd_upd, take_snoc hc', List.filter_append, List.map_append]
      simp [hp]
    · have hp' : p c = false := by simpa using hp
      rw [hp']
      refine iteF ?_
      rw [take_snoc hc', List.filter_append, List.map_append]
      simp [hp']
  · rw [e, ← Array.length_toList, List.take_length]
    exact hd
/-- over a list -/
theorem lcl_fm {a : Addr} {xs : List V} (p : V → Bool) (f : V → V) (hs : SqL K H1 a xs) (hD : H1 D = none) (hx : xs.length ≤ 1000000)
    (ht : ∀ v acc (R : Bool → Hp → Prop), v ∈ xs → R (p v) (upd H1 D (.lst acc)) → tt ((wipe σ [j]).set j (some v)) (upd H1 D (.lst acc)) R)
    (he : ∀ v acc (R : VK), v ∈ xs → p v = true → R (f v) (upd H1 D (.lst acc)) → te ((wipe σ [j]).set j (some v)) (upd H1 D (.lst acc)) R)
    (hd : Q (upd H1 D (.lst ((xs.filter p).map f)))) :
    ∃ W : Nat → Nat → Hp → Prop, (∃ m, W 0 m (upd H1 D (.lst []))) ∧ ∀ i m H, W i m H →
      ((Itl K a).stop i H ∧ Q H) ∨ ((Itl K a).go i H ∧ ∃ Nx : Hp → Prop, (∀ H', Nx H' → ∃ m', m' < m ∧ W (i + 1) m' H') ∧ ∀ y H', (Itl K a).yld i H y H' → gName j y (wipe σ [j]) H' fun σ2 H2 => wipe σ2 [j] = wipe σ [j] ∧ tt σ2 H2 fun b H3 =>
        if b = true then te σ2 H3 fun y H4 => ∃ acc, H4 D = some (.lst acc) ∧ acc.length < sizeLine ∧ Nx (upd H4 D (.lst (acc ++ [y]))) else Nx H3) := by
  refine lc_list (g := gName j) (vs := [j]) (xs := xs) (fun i H => H = upd H1 D (.lst (((xs.take i).filter p).map f))) (by simp) (fun i H _ e => by rw [e]; exact seq_upd hs hD) (fun i c H hc e => ?_) (fun H e => ?_)
  · subst e
    have hm : c ∈ xs := List.mem_of_getElem? hc
    refine ⟨wipe1, ht c _ _ hm ?_⟩
    have hlen : (((xs.take i).filter p).map f).length < sizeLine := by
      rw [List.length_map, sizeLine_eq]
      have h1 := List.length_filter_le p (xs.take i)
      rw [List.length_take] at h1
      have h2 : i < xs.length := (List.getElem?_eq_some_iff.mp hc).1
      omega
    by_cases hp : p c = true
    · rw [hp]
      refine iteT (he c _ _ hm hp ⟨_, upd_same, hlen, ?_⟩)
      rw [upd_upd, take_snoc hc, List.filter_append, List.map_append]
      simp [hp]
    · have hp' : p c = false := by simpa using hp
      rw [hp']
      refine iteF ?_
      rw [take_snoc hc, List.filter_append, List.map_append]
      simp [hp']
  · rw [e, List.take_length]
    exact hd
theorem lcs_m {x : Str} (f : Nat → V) (hx : x.cps.size ≤ 1000000)
    (he : ∀ c acc (R : VK), c ∈ x.cps.toList → R (f c) (upd H1 D (.lst acc)) → te ((wipe σ [j]).set j (some (.str ⟨#[c]⟩))) (upd H1 D (.lst acc)) R)
    (hd : Q (upd H1 D (.lst (x.cps.toList.map f)))) :
    ∃ W : Nat → Nat → Hp → Prop, (∃ m, W 0 m (upd H1 D (.lst []))) ∧ ∀ i m H, W i m H →
      ((Its x).stop i H ∧ Q H) ∨ ((Its x).go i H ∧ ∃ Nx : Hp → Prop, (∀ H', Nx H' → ∃ m', m' < m ∧ W (i + 1) m' H') ∧ ∀ y H', (Its x).yld i H y H' → gName j y (wipe σ [j]) H' fun σ2 H2 => wipe σ2 [j] = wipe σ [j] ∧ tYes σ2 H2 fun b H3 =>
        if b = true then te σ2 H3 fun y H4 => ∃ acc, H4 D = some (.lst acc) ∧ acc.length < sizeLine ∧ Nx (upd H4 D (.lst (acc ++ [y]))) else Nx H3) := by
  refine lcs_fm (fun _ => true) f hx (fun c acc R _ r => r) (fun c acc R hc _ r => he c acc R hc r) ?_
  rw [List.filter_eq_self.mpr (fun _ _ => rfl)]
  exact hd
theorem lcl_m {a : Addr} {xs : List V} (f : V → V) (hs : SqL K H1 a xs) (hD : H1 D = none) (hx : xs.length ≤ 1000000)
    (he : ∀ v acc (R : VK), v ∈ xs → R (f v) (upd H1 D (.lst acc)) → te ((wipe σ [j]).set j (some v)) (upd H1 D (.lst acc)) R)
    (hd : Q (upd H1 D (.lst (xs.map f)))) :
    ∃ W : Nat → Nat → Hp → Prop, (∃ m, W 0 m (upd H1 D (.lst []))) ∧ ∀ i m H, W i m H →
      ((Itl K a).stop i H ∧ Q H) ∨ ((Itl K a).go i H ∧ ∃ Nx : Hp → Prop, (∀ H', Nx H' → ∃ m', m' < m ∧ W (i + 1) m' H') ∧ ∀ y H', (Itl K a).yld i H y H' → gName j y (wipe σ [j]) H' fun σ2 H2 => wipe σ2 [j] = wipe σ [j] ∧ tYes σ2 H2 fun b H3 =>
        if b = true then te σ2 H3 fun y H4 => ∃ acc, H4 D = some (.lst acc) ∧ acc.length < sizeLine ∧ Nx (upd H4 D (.lst (acc ++ [y]))) else Nx H3) := by
  refine lcl_fm (fun _ => true) f hs hD hx (fun c acc R _ r => r) (fun c acc R hc _ r => he c acc R hc r) ?_
  rw [List.filter_eq_self.mpr (fun _ _ => rfl)]
  exact hd
end

/-! ### data -/
theorem dpAll_ints {K : PySem.W.Frag} {H : Hp} : ∀ ns : List Int, DpAll K H (ns.map V.int) (ns.map PyData.int)
  | [] => .nil
  | n :: r => .cons (.int n) (dpAll_ints r)
theorem dpAll_strs {K : PySem.W.Frag} {H : Hp} : ∀ ns : List Str, DpAll K H (ns.map V.str) (ns.map PyData.str)
  | [] => .nil
  | n :: r => .cons (.str n) (dpAll_strs r)

theorem strOk_of {z : Str} (h : ∀ c ∈ z.cps.toList, c < 1114112) : PyData.strOk z = true := by
  unfold PyData.strOk
  rw [← Array.all_toList]
  exact List.all_eq_true.mpr fun c hc => decide_eq_true (h c hc)
theorem canLay_strs : ∀ {l : List Str}, (∀ z ∈ l, ∀ c ∈ z.cps.toList, c < 1114112) → PyData.canLayAll0 (l.map PyData.str) = true
  | [], _ => rfl
  | z :: r, h => by
    show (PyData.strOk z && PyData.canLayAll0 (r.map PyData.str)) = true
    rw [strOk_of (h z (List.mem_cons_self ..)), canLay_strs fun y hy => h y (List.mem_cons_of_mem _ hy)]
    rfl
theorem depth_strs : ∀ l : List Str, PyData.depthAll (l.map PyData.str) = 0
  | [] => by simp [PyData.depthAll]
  | z :: r => by
    rw [List.map_cons, PyData.depthAll, depth_strs r]
    simp [PyData.depth]
theorem shaped_strs {l : List Str} (h : ∀ z ∈ l, ∀ c ∈ z.cps.toList, c < 1114112) : SeqAt.shaped (.list (l.map PyData.str)) = true := by
  unfold SeqAt.shaped
  have e1 : PyData.canLay0 (.list (l.map PyData.str)) = true := canLay_strs h
  have e2 : PyData.depth (.list (l.map PyData.str)) = 1 := by rw [PyData.depth, depth_strs]
  rw [e1, e2]
  rfl
theorem canLay_ints : ∀ l : List Int, PyData.canLayAll0 (l.map PyData.int) = true
  | [] => rfl
  | z :: r => by
    show (true && PyData.canLayAll0 (r.map PyData.int)) = true
    rw [canLay_ints r]
    rfl
theorem depth_ints : ∀ l : List Int, PyData.depthAll (l.map PyData.int) = 0
  | [] => by simp [PyData.depthAll]
  | z :: r => by
    rw [List.map_cons, PyData.depthAll, depth_ints r]
    simp [PyData.depth]
theorem shaped_ints (l : List Int) : SeqAt.shaped (.list (l.map PyData.int)) = true := by
  unfold SeqAt.shaped
  have e1 : PyData.canLay0 (.list (l.map PyData.int)) = true := canLay_ints l
  have e2 : PyData.depth (.list (l.map PyData.int)) = 1 := by rw [PyData.depth, depth_ints]
  rw [e1, e2]
  rfl
theorem eqv_nil (xs : List PyData) : PyData.eqv (.list xs) (.list []) = xs.isEmpty := by
  rw [PyData.eqv]
  cases xs with
  | nil => simp [PyData.eqvAll]
  | cons x r => simp [PyData.eqvAll]

/-! ### the letters -/
abbrev abc : Str := "abcdefghijklmnopqrstuvwxyz"
theorem abc_len : abc.cps.toList.length = 26 := by decide +kernel
theorem abc_size : abc.length = 26 := by decide +kernel

theorem abc_at {d : Int} (h0 : 0 ≤ d) (h1 : d < 26) : ∃ c, atI abc.cps.toList d = some c ∧ c ∈ abc.cps.toList := by
  obtain ⟨j, rfl⟩ : ∃ j : Nat, d = (j : Int) := ⟨d.toNat, by omega⟩
  have hj : j < abc.cps.toList.length := by rw [abc_len]; omega
  exact ⟨abc.cps.toList[j], atI_nat (List.getElem?_eq_getElem hj), List.getElem_mem hj⟩
/-- an item of a written text at a place within -/
theorem str_at {z : Str} {n : Nat} (hn : z.cps.toList.length = n) {d : Int} (h0 : 0 ≤ d) (h1 : d < n) : ∃ c, atI z.cps.toList d = some c ∧ c ∈ z.cps.toList := by
  obtain ⟨j, rfl⟩ : ∃ j : Nat, d = (j : Int) := ⟨d.toNat, by omega⟩
  have hj : j < z.cps.toList.length := by omega
  exact ⟨z.cps.toList[j], atI_nat (List.getElem?_eq_getElem hj), List.getElem_mem hj⟩
theorem joinL_one : ∀ cs : List Nat, TL.joinL [] (cs.map fun c => [c]) = cs
  | [] => rfl
  | [c] => rfl
  | c :: d :: r => by
    show [c] ++ ([] ++ TL.joinL [] ((d :: r).map fun c => [c])) = c :: d :: r
    rw [joinL_one (d :: r)]
    rfl
/-- "".join of single signs -/
theorem join_signs (cs : List Nat) : Txt.join "" (cs.map fun c => (⟨#[c]⟩ : Str)) = SX.S cs := by
  have e := SX.join_S [] (cs.map fun c => [c])
  rw [joinL_one, List.map_map] at e
  exact e
theorem signs_len : ∀ cs : List Nat, ((cs.map fun c => (⟨#[c]⟩ : Str)).map (·.length)).sum = cs.length
  | [] => rfl
  | c :: r => by
    rw [List.map_cons, List.map_cons, List.sum_cons, signs_len r, List.length_cons]
    show 1 + r.length = r.length + 1
    omega

/-! ### names -/
def isNmS (z : Str) : Bool := decide (1 ≤ z.length) && decide (z.length ≤ 8) && z.cps.toList.all fun c => decide (c ∈ abc.cps.toList)
def isNm : V → Bool
  | .str z => isNmS z
  | _ => false

/-! ### a value whose type is known -/
structure TxOk (z : Str) : Prop where
  len : z.length ≤ 100000
  ok : ∀ c ∈ z.cps.toList, c < 1114112
def isStrV : V → Bool
  | .str _ => true
  | _ => false
/-- a text in bounds, or something of a built-in type that is no text -/
def Kn (K : PySem.W.Frag) (H : Hp) (v : V) : Prop := (∃ z, v = .str z ∧ TxOk z) ∨ (isStrV v = false ∧ ∃ T : String, TyX K H v (.type T) ∧ T ∈ ["int", "bool", "NoneType", "list", "tuple", "dict"])
theorem _root_.L2.TyX.same {K : PySem.W.Frag} {H H' : Hp} {v : V} {t : Value} (s : Same H H') (h : TyX K H v t) : TyX K H' v t := by
  cases h with
  | base h =>
    cases h with
    | non => exact .base .non
    | bl x => exact .base (.bl x)
    | int i => exact .base (.int i)
    | str x => exact .base (.str x)
    | flt x => exact .base (.flt x)
    | lst e => exact .base (.lst (s _ _ e))
    | frz e => exact .base (.frz (s _ _ e))
    | tup e => exact .base (.tup (s _ _ e))
    | dK e => exact .base (.dK (s _ _ e))
    | dT e => exact .base (.dT (s _ _ e))
    | ins e cl ha hn htk hm => exact .base (.ins (s _ _ e) cl ha hn htk hm)
  | byt b => exact .byt b
  | set e => exact .set (s _ _ e)
  | kList e c => exact .kList e c
  | kTuple e c => exact .kTuple e c
  | kDict e c => exact .kDict e c
  | fTuple e => exact .fTuple (s _ _ e)
  | fDict e => exact .fDict (s _ _ e)
theorem Kn.same {K : PySem.W.Frag} {H H' : Hp} {v : V} (s : Same H H') (h : Kn K H v) : Kn K H' v := by
  rcases h with h | ⟨h1, T, h2, h3⟩
  · exact .inl h
  · exact .inr ⟨h1, T, TyX.same s h2, h3⟩
theorem kit_str {T : String} (h : T ∈ ["int", "bool", "NoneType", "list", "tuple", "dict"]) : kitB T "str" = some false := by
  simp only [List.mem_cons, List.not_mem_nil, or_false] at h
  rcases h with rfl | rfl | rfl | rfl | rfl | rfl <;> decide +kernel
theorem kit_str_str : kitB "str" "str" = some true := by decide +kernel
section
variable {K : PySem.W.Frag} {H : Hp}
theorem Kn.str {z : Str} (h : TxOk z) : Kn K H (.str z) := .inl ⟨z, rfl, h⟩
theorem Kn.int (i : Int) : Kn K H (.int i) := .inr ⟨rfl, "int", .base (.int i), by simp⟩
theorem Kn.bl (b : Bool) : Kn K H (.bl b) := .inr ⟨rfl, "bool", .base (.bl b), by simp⟩
theorem Kn.non : Kn K H .non := .inr ⟨rfl, "NoneType", .base .non, by simp⟩
theorem Kn.lst {a : Addr} {xs : List V} (h : H a = some (.lst xs)) : Kn K H (.ref a) := .inr ⟨rfl, "list", .base (.lst h), by simp⟩
theorem Kn.tup {a : Addr} {xs : List V} (h : H a = some (.tup xs)) : Kn K H (.ref a) := .inr ⟨rfl, "tuple", .base (.tup h), by simp⟩
theorem Kn.dct {a : Addr} {kvs : List (Key × V)} (h : H a = some (.dK kvs)) : Kn K H (.ref a) := .inr ⟨rfl, "dict", .base (.dK h), by simp⟩
end
/-- isinstance(v, str): the type and the answer -/
theorem Kn.isS (K : PySem.W.Frag) {H : Hp} {v : V} (kn : Kn K H v) : ∃ T : String, TyX K H v (.type T) ∧ PySem.W.kitOne K (.type T) (.type "str") = some (isStrV v) := by
  rcases kn with ⟨z, rfl, h⟩ | ⟨h1, T, ty, ht⟩
  · exact ⟨_, .base (.str z), kit_ty kit_str_str⟩
  · exact ⟨T, ty, by rw [h1]; exact kit_ty (kit_str ht)⟩
theorem Kn.tx {K : PySem.W.Frag} {H : Hp} {z : Str} (kn : Kn K H (.str z)) : TxOk z := by
  rcases kn with ⟨z', e, h⟩ | ⟨h1, _⟩
  · cases e
    exact h
  · cases h1
theorem isNm_notStr {v : V} (h : isStrV v = false) : isNm v = false := by
  cases v with
  | str z => cases h
  | _ => rfl
theorem isStrV_str {v : V} (h : isStrV v = true) : ∃ z, v = .str z := by
  cases v with
  | str z => exact ⟨z, rfl⟩
  | _ => cases h
theorem isNm_str {v : V} (h : isNm v = true) : ∃ z, v = .str z := by
  cases v with
  | str z => exact ⟨z, rfl⟩
  | _ => cases h
theorem TxOk.cut {z : Str} (h : TxOk z) (lo hi : Option Int) : TxOk (cutS z lo hi) := ⟨Nat.le_trans (cutS_length z lo hi) h.1, fun c hc => h.2 c (List.mem_of_mem_drop (List.mem_of_mem_take (by simpa [cutS] using hc)))⟩
theorem str_cat_toList (a b : Str) : (a ++ b).cps.toList = a.cps.toList ++ b.cps.toList := TL.tl_append a b
theorem str_cat_len (a b : Str) : (a ++ b).length = a.length + b.length := by
  have e := congrArg List.length (str_cat_toList a b)
  rw [List.length_append] at e
  simpa [Str.length] using e
theorem TxOk.cat {a b : Str} {n m : Nat} (ha : TxOk a) (hb : TxOk b) (la : a.length ≤ n) (lb : b.length ≤ m) (h : n + m ≤ 100000) : TxOk (a ++ b) := ⟨by rw [str_cat_len]; omega, fun c hc => by
  rw [str_cat_toList] at hc
  rcases List.mem_append.mp hc with hc | hc
  · exact ha.2 c hc
  · exact hb.2 c hc⟩
theorem one_ok {c : Nat} (h : c < 1114112) : TxOk ⟨#[c]⟩ := ⟨(by show 1 ≤ 100000; decide), fun d hd => by
  have e : d = c := by simpa using hd
  rw [e]
  exact h⟩
theorem nil_ok : TxOk "" := ⟨Nat.zero_le _, fun c hc => by
  have e0 : ("" : Str).cps.toList = [] := by decide +kernel
  rw [e0] at hc
  cases hc⟩

/-! ### errors, by their names -/
theorem clsv_errs (K : PySem.W.Frag) : ∀ ys : List Str, Paired ClsV (ys.map fun y => V.ref (He.ga K y)) (ys.map fun y => Value.ref (He.ga K y))
  | [] => .nil
  | y :: r => .cons (.own _) (clsv_errs K r)
theorem kitAny_errs {K : PySem.W.Frag} (EK : ErrK K) {x : Str} (hx : x ∈ errNames) : ∀ ys : List Str, (∀ y ∈ ys, y ∈ errNames) → PySem.W.kitAny K (.ref (He.ga K x)) (ys.map fun y => Value.ref (He.ga K y)) = some (ys.any fun y => decide (x = y))
  | [], _ => rfl
  | y :: r, h => by
    have ih := kitAny_errs EK hx r fun z hz => h z (List.mem_cons_of_mem _ hz)
    have h1 := EK.kit x hx y (h y (List.mem_cons_self ..))
    refine kitAny_cons (b := decide (x = y)) h1 (fun e => ?_) (fun e => ?_)
    · show PySem.W.kitAny K (.ref (He.ga K x)) (r.map fun y => Value.ref (He.ga K y)) = some (decide (x = y) || r.any fun y => decide (x = y))
      rw [ih, e]
      rfl
    · show (decide (x = y) || r.any fun y => decide (x = y)) = true
      rw [e]
      rfl

/-! ### all but one object -/
def off (p : Addr) (H : Hp) : Hp := fun b => if b = p then none else H b
theorem off_at {p b : Addr} {H : Hp} {o : HO} (h : H b = some o) (n : b ≠ p) : off p H b = some o := by
  unfold off
  rw [if_neg n]
  exact h
theorem off_same {p : Addr} {H : Hp} : Same (off p H) H := fun b o h => by
  unfold off at h
  split at h
  · cases h
  · exact h
theorem Keep.off {p : Addr} {H H' : Hp} (k : Keep [p] H H') : Same (off p H) (U.off p H') := fun b o h => by
  have n : b ≠ p := fun e => by
    unfold U.off at h
    rw [if_pos e] at h
    cases h
  exact off_at (k.k b o (off_same _ _ h) (by simp [n])) n
theorem off_of_same {p : Addr} {H H' : Hp} (s : Same H H') : Same (off p H) (off p H') := (Keep.same s).off

/-! ### data in the heap -/
mutual
theorem Dp.same {K : PySem.W.Frag} {H H' : Hp} (s : Same H H') : ∀ {v : V} {d : PyData}, Dp K H v d → Dp K H' v d
  | _, _, .non => .non
  | _, _, .bl b => .bl b
  | _, _, .int i => .int i
  | _, _, .str x => .str x
  | _, _, .lst h hs => .lst (s.seq h) (DpAll.same s hs)
  | _, _, .tup h hs => .tup (Same.seqT s h) (DpAll.same s hs)
theorem DpAll.same {K : PySem.W.Frag} {H H' : Hp} (s : Same H H') : ∀ {vs : List V} {ds : List PyData}, DpAll K H vs ds → DpAll K H' vs ds
  | _, _, .nil => .nil
  | _, _, .cons h hs => .cons (Dp.same s h) (DpAll.same s hs)
end
def tyD : PyData → String
  | .none => "NoneType"
  | .bool _ => "bool"
  | .int _ => "int"
  | .str _ => "str"
  | .list _ => "list"
  | .tuple _ => "tuple"
  | .dict _ => "dict"
theorem _root_.L2.Dp.ty {K : PySem.W.Frag} {H : Hp} {v : V} {d : PyData} (h : Dp K H v d) : TyX K H v (.type (tyD d)) := by
  cases h with
  | non => exact .base .non
  | bl b => exact .base (.bl b)
  | int i => exact .base (.int i)
  | str x => exact .base (.str x)
  | lst h _ =>
    rcases h with (h | ⟨o, h⟩) | h
    · exact .base (.lst h)
    · exact .base (.frz h)
    · obtain ⟨o, its, n, hk, hc, _⟩ := h
      exact .kList hk hc
  | tup h _ =>
    rcases h with (h | ⟨o, h⟩) | h
    · exact .base (.tup h)
    · exact .fTuple h
    · obtain ⟨o, its, n, hk, hc, _⟩ := h
      exact .kTuple hk hc
structure Dt (K : PySem.W.Frag) (H : Hp) (v : V) (d : PyData) : Prop where
  dp : Dp K H v d
  sh : SeqAt.shaped d = true
theorem Dt.same {K : PySem.W.Frag} {H H' : Hp} {v : V} {d : PyData} (s : Same H H') (h : Dt K H v d) : Dt K H' v d := ⟨Dp.same s h.dp, h.sh⟩
theorem Dt.of_off {K : PySem.W.Frag} {p : Addr} {H : Hp} {v : V} {d : PyData} (h : Dt K (off p H) v d) : Dt K H v d := h.same off_same
theorem Kn.of_off {K : PySem.W.Frag} {p : Addr} {H : Hp} {v : V} (h : Kn K (off p H) v) : Kn K H v := Kn.same off_same h
def noDict : PyData → Bool
  | .dict _ => false
  | _ => true
theorem _root_.L2.Dp.nd {K : PySem.W.Frag} {H : Hp} {v : V} {d : PyData} (h : Dp K H v d) : noDict d = true := by
  cases h <;> rfl
def isIntD : PyData → Bool
  | .int _ => true
  | .bool _ => true
  | _ => false
def isBoolD : PyData → Bool
  | .bool _ => true
  | _ => false
def isStrD : PyData → Bool
  | .str _ => true
  | _ => false
def isTupD : PyData → Bool
  | .tuple _ => true
  | _ => false
def tyNames : List String := ["NoneType", "bool", "int", "str", "list", "tuple", "dict"]
theorem tyD_mem (d : PyData) : tyD d ∈ tyNames := by
  cases d <;> simp [tyD, tyNames]
theorem kit7_int : ∀ T ∈ tyNames, kitB T "int" = some (T == "int" || T == "bool") := by decide +kernel
theorem kit7_bool : ∀ T ∈ tyNames, kitB T "bool" = some (T == "bool") := by decide +kernel
theorem kit7_str : ∀ T ∈ tyNames, kitB T "str" = some (T == "str") := by decide +kernel
theorem kit7_tup : ∀ T ∈ tyNames, kitB T "tuple" = some (T == "tuple") := by decide +kernel
theorem kit7_list : ∀ T ∈ tyNames, kitB T "list" = some (T == "list") := by decide +kernel
theorem kit7_dict : ∀ T ∈ tyNames, kitB T "dict" = some (T == "dict") := by decide +kernel
theorem kitD_int {d : PyData} (h : noDict d = true) : kitB (tyD d) "int" = some (isIntD d) := by
  rw [kit7_int _ (tyD_mem d)]
  cases d <;> rfl
theorem kitD_bool {d : PyData} (h : noDict d = true) : kitB (tyD d) "bool" = some (isBoolD d) := by
  rw [kit7_bool _ (tyD_mem d)]
  cases d <;> rfl
theorem kitD_str {d : PyData} (h : noDict d = true) : kitB (tyD d) "str" = some (isStrD d) := by
  rw [kit7_str _ (tyD_mem d)]
  cases d <;> rfl
theorem kitD_tup {d : PyData} (h : noDict d = true) : kitB (tyD d) "tuple" = some (isTupD d) := by
  rw [kit7_tup _ (tyD_mem d)]
  cases d <;> rfl

/-! ### menus: an item of a written list at a drawn place -/
theorem menu {xs : List V} {n : Nat} {d : Int} (P : V → Prop) (hn : xs.length = n) (h0 : 0 ≤ d) (h1 : d < n) (all : ∀ v ∈ xs, P v) : ∃ v, atI xs d = some v ∧ P v := by
  obtain ⟨j, rfl⟩ : ∃ j : Nat, d = (j : Int) := ⟨d.toNat, by omega⟩
  have hj : j < xs.length := by omega
  exact ⟨xs[j], atI_nat (List.getElem?_eq_getElem hj), all _ (List.getElem_mem hj)⟩
theorem Dt.int {K : PySem.W.Frag} {H : Hp} (i : Int) : Dt K H (.int i) (.int i) := ⟨.int i, rfl⟩
theorem Dt.bl {K : PySem.W.Frag} {H : Hp} (i : Bool) : Dt K H (.bl i) (.bool i) := ⟨.bl i, rfl⟩
theorem Dt.non {K : PySem.W.Frag} {H : Hp} : Dt K H .non .none := ⟨.non, rfl⟩
theorem Dt.str {K : PySem.W.Frag} {H : Hp} {z : Str} (h : TxOk z) : Dt K H (.str z) (.str z) := ⟨.str z, by
  unfold SeqAt.shaped
  have e : PyData.canLay0 (.str z) = true := strOk_of h.ok
  rw [e]
  rfl⟩
theorem shaped_parts {d : PyData} (h : SeqAt.shaped d = true) : d.canLay0 = true ∧ d.depth ≤ 64 := ⟨SeqAt.canLay_of_shaped h, SeqAt.depth_of_shaped h⟩
/-- data of some depth -/
structure Dd (n : Nat) (d : PyData) : Prop where
  lay : d.canLay0 = true
  dep : d.depth ≤ n
theorem Dd.sh {n : Nat} {d : PyData} (h : Dd n d) (hn : n ≤ 64) : SeqAt.shaped d = true := by
  unfold SeqAt.shaped
  rw [h.lay, decide_eq_true (Nat.le_trans h.dep hn)]
  rfl
theorem Dd.list {n : Nat} {ds : List PyData} (h : ∀ d ∈ ds, Dd n d) : Dd (n + 1) (.list ds) := by
  constructor
  · show PyData.canLayAll0 ds = true
    induction ds with
    | nil => rfl
    | cons x r ih =>
      show (x.canLay0 && PyData.canLayAll0 r) = true
      rw [(h x (List.mem_cons_self ..)).lay, ih fun y hy => h y (List.mem_cons_of_mem _ hy)]
      rfl
  · rw [PyData.depth]
    have e : PyData.depthAll ds ≤ n := by
      induction ds with
      | nil => simp [PyData.depthAll]
      | cons x r ih =>
        rw [PyData.depthAll]
        exact Nat.max_le.mpr ⟨(h x (List.mem_cons_self ..)).dep, ih fun y hy => h y (List.mem_cons_of_mem _ hy)⟩
    omega
theorem Dd.tuple {n : Nat} {ds : List PyData} (h : ∀ d ∈ ds, Dd n d) : Dd (n + 1) (.tuple ds) := by
  have q := Dd.list h
  exact ⟨q.lay, by have := q.dep; simp only [PyData.depth] at this ⊢; exact this⟩
theorem Dd.int (i : Int) : Dd 0 (.int i) := ⟨rfl, by simp [PyData.depth]⟩
theorem Dd.str {z : Str} (h : TxOk z) : Dd 0 (.str z) := ⟨strOk_of h.ok, by simp [PyData.depth]⟩
theorem Dd.none : Dd 0 .none := ⟨rfl, by simp [PyData.depth]⟩
theorem Dd.bool (b : Bool) : Dd 0 (.bool b) := ⟨rfl, by simp [PyData.depth]⟩
theorem Dd.mono {n m : Nat} {d : PyData} (h : Dd n d) (k : n ≤ m) : Dd m d := ⟨h.lay, Nat.le_trans h.dep k⟩
end U

set_option Elab.async false
set_option linter.all false
set_option maxRecDepth 100000
set_option maxHeartbeats 4000000
/-! Text += text; isinstance of own classes; small facts of texts. -/
namespace U
open PySem PySem.Spec PyProof.Rows L2
theorem iteE {c : Bool} {A B : Prop} (h : c = false) (b : B) : if c = true then A else B := by
  rw [h]
  exact iteF b
abbrev ipS : TIp := rAddS
theorem ip_addS {X : Cx} : PIp X .Add ipS := iop_add_str
/-- what isinstance asks of an own class -/
structure InsK (K : PySem.W.Frag) (C : Addr) : Prop where
  cl : Cls K C
  ha : PySem.W.findIn K (.ref C) "__class__" = some (some (.builtin "object.__class__"))
  hn : PySem.W.specialIn K (.builtin "object.__class__") "__get__" = some (some (.builtin "getset_descriptor.__get__"))
  htk : PySem.W.takesIn K (.builtin "object.__class__") = some true
  hm : PySem.W.mroIn K C (.type "object") = some true
  kit : PySem.W.kitOne K (.ref C) (.ref C) = some true
def insB (K : PySem.W.Frag) (x : Str) : Bool := (He.Fa.cls x).ok K && (He.eqO (PySem.W.findIn K (.ref (He.ga K x)) "__class__") (some (some (.builtin "object.__class__"))) &&
  (He.eqO (PySem.W.specialIn K (.builtin "object.__class__") "__get__") (some (some (.builtin "getset_descriptor.__get__"))) && (decide (PySem.W.takesIn K (.builtin "object.__class__") = some true) &&
  (decide (PySem.W.mroIn K (He.ga K x) (.type "object") = some true) && decide (PySem.W.kitOne K (.ref (He.ga K x)) (.ref (He.ga K x)) = some true)))))
theorem insB_ok {K : PySem.W.Frag} {x : Str} (h : insB K x = true) : InsK K (He.ga K x) := by
  obtain ⟨h1, h⟩ := He.ba h
  obtain ⟨h2, h⟩ := He.ba h
  obtain ⟨h3, h⟩ := He.ba h
  obtain ⟨h4, h⟩ := He.ba h
  obtain ⟨h5, h6⟩ := He.ba h
  exact ⟨He.cls_ok h1, He.eqO_ok h2, He.eqO_ok h3, of_decide_eq_true h4, of_decide_eq_true h5, of_decide_eq_true h6⟩
theorem InsK.ty {K : PySem.W.Frag} {C : Addr} (h : InsK K C) {H : Hp} {a dx : Addr} {fs : List (Str × V)} (e : H a = some (.ins C dx fs)) : TyX K H (.ref a) (.ref C) := .base (.ins e h.cl h.ha h.hn h.htk h.hm)
theorem lit_ok {z : Str} (h : z.length ≤ 100000 ∧ ∀ c ∈ z.cps.toList, c < 1114112) : TxOk z := ⟨h.1, h.2⟩
theorem str_beq (a x : Str) : (a == x) = decide (x = a) := by
  by_cases h : x = a
  · rw [decide_eq_true h, h]
    exact beq_self_eq_true a
  · rw [decide_eq_false h]
    exact beq_eq_false_iff_ne.mpr fun e => h e.symm
theorem str_eq_nil {z : Str} : z = "" ↔ z.length = 0 := ⟨fun e => by rw [e]; rfl, fun e => by
  obtain ⟨a⟩ := z
  have e1 : a.size = 0 := e
  have e2 : a = #[] := Array.eq_empty_of_size_eq_zero e1
  rw [e2]
  rfl⟩
theorem partition_len (z y : Str) : (Txt.partition z y).1.length ≤ z.length ∧ (Txt.partition z y).2.1.length ≤ z.length ∧ (Txt.partition z y).2.2.length ≤ z.length := PyProof.Rows.fact_partition z y
theorem partition_ok {z : Str} (h : TxOk z) (y : Str) : TxOk (Txt.partition z y).1 ∧ TxOk (Txt.partition z y).2.1 ∧ TxOk (Txt.partition z y).2.2 := by
  have hl := partition_len z y
  have hs := PySem.StrLaws.partition_sum z y
  have hm : ∀ c, c ∈ (Txt.partition z y).1.cps.toList ∨ c ∈ (Txt.partition z y).2.1.cps.toList ∨ c ∈ (Txt.partition z y).2.2.cps.toList → c ∈ z.cps.toList := fun c hc => by
    rw [← hs, str_cat_toList, str_cat_toList, List.mem_append, List.mem_append]
    rcases hc with h | h | h
    · exact .inl (.inl h)
    · exact .inl (.inr h)
    · exact .inr h
  exact ⟨⟨Nat.le_trans hl.1 h.1, fun c hc => h.2 c (hm c (.inl hc))⟩, ⟨Nat.le_trans hl.2.1 h.1, fun c hc => h.2 c (hm c (.inr (.inl hc)))⟩, ⟨Nat.le_trans hl.2.2 h.1, fun c hc => h.2 c (hm c (.inr (.inr hc)))⟩⟩
def optV : Option Int → V
  | none => .non
  | some n => .int n
theorem flat_opt (o : Option Int) : flatV (optV o) = true := by cases o <;> rfl
/-- list(d.keys()) -/
abbrev rListKV : RC := fun xs H Q => ∃ (a d : Addr) (kvs : List (Key × V)), xs = [.ref a] ∧ H a = some (KeysO a d) ∧ Rd H d (.dK kvs) ∧ ∀ p, H p = none → Q (.ref p) (upd H p (.lst (kvs.map fun kv => kV kv.1)))
theorem call_listKV {X : Cx} (hcalm : X.calm = true) : CallR X (.type "list") rListKV := by
  intro pins s σ H xs us Q I r q
  obtain ⟨a, d, kvs, ex, ha, hd, q⟩ := q
  subst ex
  obtain ⟨u, eu, rx⟩ := vals1 r
  subst eu
  cases rx
  obtain ⟨z, lo, vs, rel, dd⟩ := dk_rd I.hok hd
  obtain ⟨ep, hat⟩ := dd.dictAt
  obtain ⟨view, _, _⟩ := (show ObjOk X.prog X.w H s.heap a (KeysO a d) from I.hok a _ ha)
  have ek : (kvs.map fun kv => kV kv.1) = vs.map fun p => kV p.1 := by
    have e := congrArg (List.map kV) rel.keys
    rw [List.map_map, List.map_map] at e
    exact e
  refine PySem.W.kdl_call (PySem.W.kdl_keys (r := a) (d := d) (knd := mixKind X.prog X.w) (kvs := vs) (ep := ep)) (I.ok.hd hcalm) ⟨view, hat⟩ (by rw [← rel.length]; exact z) fun h' tk acc c' hk hD hacc => ?_
  have hv : Vals (vs.map fun p => kV p.1) acc.toList := keys_at (by rw [Array.length_toList]; exact hacc.1) fun j v e => hacc.2 j v (by rw [← Array.getElem?_toList]; exact e)
  refine ⟨.ref s.heap.objs.size, upd H s.heap.objs.size (.lst (kvs.map fun kv => kV kv.1)), I.laid (t' := tk) hk (Nat.le_refl _)
    (show ObjOk X.prog X.w _ _ _ (.lst (kvs.map fun kv => kV kv.1)) from ⟨by rw [List.length_map]; exact z, acc.toList, c', by rw [ek]; exact hv, by rw [Array.toArray_toList]; exact hD⟩), rfl, q _ (I.hok.fresh (Nat.le_refl _))⟩
/-- a comprehension over a dict's keys -/
theorem lck_fm {tt : TT} {te : TE} {σ : L2.St} {H1 : Hp} {D : Addr} {Q : Hp → Prop} {j : Nat} {d : Addr} {o : Obj} {kvs : List (Key × V)} (p : Key × V → Bool) (f : Key × V → V) (hd0 : H1 d = some (.frz o (.dK kvs))) (hD : H1 D = none) (hx : kvs.length ≤ 1000000)
    (ht : ∀ kv acc (R : Bool → Hp → Prop), kv ∈ kvs → R (p kv) (upd H1 D (.lst acc)) → tt ((wipe σ [j]).set j (some (kV kv.1))) (upd H1 D (.lst acc)) R)
    (he : ∀ kv acc (R : VK), kv ∈ kvs → p kv = true → R (f kv) (upd H1 D (.lst acc)) → te ((wipe σ [j]).set j (some (kV kv.1))) (upd H1 D (.lst acc)) R)
    (hd : Q (upd H1 D (.lst ((kvs.filter p).map f)))) :
    ∃ W : Nat → Nat → Hp → Prop, (∃ m, W 0 m (upd H1 D (.lst []))) ∧ ∀ i m H, W i m H →
      ((Itk d o kvs).stop i H ∧ Q H) ∨ ((Itk d o kvs).go i H ∧ ∃ Nx : Hp → Prop, (∀ H', Nx H' → ∃ m', m' < m ∧ W (i + 1) m' H') ∧ ∀ y H', (Itk d o kvs).yld i H y H' → gName j y (wipe σ [j]) H' fun σ2 H2 => wipe σ2 [j] = wipe σ [j] ∧ tt σ2 H2 fun b H3 =>
        if b = true then te σ2 H3 fun y H4 => ∃ acc, H4 D = some (.lst acc) ∧ acc.length < sizeLine ∧ Nx (upd H4 D (.lst (acc ++ [y]))) else Nx H3) := by
  refine ⟨fun i m H => m = kvs.length - i ∧ i ≤ kvs.length ∧ H = upd H1 D (.lst (((kvs.take i).filter p).map f)), ⟨kvs.length, by simp, Nat.zero_le _, by simp⟩, ?_⟩
  rintro i m H ⟨rfl, hi, rfl⟩
  have hfz : (upd H1 D (.lst (((kvs.take i).filter p).map f))) d = some (.frz o (.dK kvs)) := by
    rw [upd_ne (ne_of_none hd0 hD)]
    exact hd0
  by_cases hlt : i < kvs.length
  · refine .inr ⟨⟨hfz, hlt⟩, fun H' => H' = upd H1 D (.lst (((kvs.take (i + 1)).filter p).map f)), fun H' p' => ⟨kvs.length - (i + 1), by omega, rfl, hlt, p'⟩, fun y H' z => ?_⟩
    obtain ⟨e, k, v, hk, rfl⟩ := z
    subst e
    have hm : (k, v) ∈ kvs := List.mem_of_getElem? hk
    refine ⟨wipe1, ht (k, v) _ _ hm ?_⟩
    have hlen : (((kvs.take i).filter p).map f).length < sizeLine := by
      rw [List.length_map, sizeLine_eq]
      have h1 := List.length_filter_le p (kvs.take i)
      rw [List.length_take] at h1
      omega
    by_cases hp : p (k, v) = true
    · rw [hp]
      refine iteT (he (k, v) _ _ hm hp ⟨_, upd_same, hlen, ?_⟩)
      rw [upd_upd, take_snoc hk, List.filter_append, List.map_append]
      simp [hp]
    · have hp' : p (k, v) = false := by simpa using hp
      rw [hp']
      refine iteF ?_
      rw [take_snoc hk, List.filter_append, List.map_append]
      simp [hp']
  · have e : i = kvs.length := by omega
    subst e
    refine .inl ⟨⟨hfz, Nat.le_refl _⟩, ?_⟩
    rw [List.take_length]
    exact hd
/-- a comprehension over a list whose element may lay new things -/
theorem lcl_s {K : PySem.W.Frag} {te : TE} {σ : L2.St} {H1 : Hp} {D : Addr} {Q : Hp → Prop} {j : Nat} {a : Addr} {xs : List V} (f : V → V) (hs : SqL K H1 a xs) (hD : H1 D = none) (hx : xs.length ≤ 1000000)
    (he : ∀ v H', v ∈ xs → Same H1 H' → ∀ R : VK, (∀ H'', Same H' H'' → R (f v) H'') → te ((wipe σ [j]).set j (some v)) H' R)
    (hd : ∀ H', Same H1 H' → H' D = some (.lst (xs.map f)) → Q H') :
    ∃ W : Nat → Nat → Hp → Prop, (∃ m, W 0 m (upd H1 D (.lst []))) ∧ ∀ i m H, W i m H →
      ((Itl K a).stop i H ∧ Q H) ∨ ((Itl K a).go i H ∧ ∃ Nx : Hp → Prop, (∀ H', Nx H' → ∃ m', m' < m ∧ W (i + 1) m' H') ∧ ∀ y H', (Itl K a).yld i H y H' → gName j y (wipe σ [j]) H' fun σ2 H2 => wipe σ2 [j] = wipe σ [j] ∧ tYes σ2 H2 fun b H3 =>
        if b = true then te σ2 H3 fun y H4 => ∃ acc, H4 D = some (.lst acc) ∧ acc.length < sizeLine ∧ Nx (upd H4 D (.lst (acc ++ [y]))) else Nx H3) := by
  refine lc_list (g := gName j) (vs := [j]) (xs := xs) (fun i H => Same H1 H ∧ H D = some (.lst ((xs.take i).map f))) ⟨same_new hD, by rw [upd_same]; simp⟩ (fun i H _ e => e.1.seq hs) (fun i c H hc e => ?_) (fun H e => ?_)
  · obtain ⟨s1, hl⟩ := e
    refine ⟨wipe1, he c H (List.mem_of_getElem? hc) s1 _ fun H4 s4 => ⟨_, s4 _ _ hl, ?_, ?_, ?_⟩⟩
    · rw [List.length_map, List.length_take, sizeLine_eq]
      omega
    · exact U.Same.mut (s1.trans s4) hD
    · rw [upd_same, take_snoc hc, List.map_append]
      rfl
  · refine hd H e.1 ?_
    rw [e.2, List.take_length]
/-- what is told of some error classes -/
structure ErrL (l : List Str) (K : PySem.W.Frag) : Prop where
  exc : ∀ x ∈ l, ExcC K (He.ga K x)
  exm : ∀ x ∈ l, PySem.W.exmOne K (.ref (He.ga K x)) (.ref (He.ga K "HallError")) = some true
  kit : ∀ x ∈ l, ∀ y ∈ l, PySem.W.kitOne K (.ref (He.ga K x)) (.ref (He.ga K y)) = some (decide (x = y))
  kitH : ∀ x ∈ l, PySem.W.kitOne K (.ref (He.ga K x)) (.ref (He.ga K "HallError")) = some true
  kitV : ∀ x ∈ l, PySem.W.kitOne K (.ref (He.ga K x)) (.type "ValueError") = some true
def errLB (l : List Str) (K : PySem.W.Frag) : Bool := l.all fun x => excB K (He.ga K x) && (decide (PySem.W.exmOne K (.ref (He.ga K x)) (.ref (He.ga K "HallError")) = some true) &&
  ((l.all fun y => decide (PySem.W.kitOne K (.ref (He.ga K x)) (.ref (He.ga K y)) = some (decide (x = y)))) && (decide (PySem.W.kitOne K (.ref (He.ga K x)) (.ref (He.ga K "HallError")) = some true) && decide (PySem.W.kitOne K (.ref (He.ga K x)) (.type "ValueError") = some true))))
theorem errLB_ok {l : List Str} {K : PySem.W.Frag} (h : errLB l K = true) : ErrL l K := by
  have h1 := List.all_eq_true.mp h
  refine ⟨fun x hx => excB_ok (He.ba (h1 x hx)).1, fun x hx => of_decide_eq_true (He.ba (He.ba (h1 x hx)).2).1, fun x hx y hy => ?_, fun x hx => ?_, fun x hx => ?_⟩
  · exact of_decide_eq_true (List.all_eq_true.mp (He.ba (He.ba (He.ba (h1 x hx)).2).2).1 y hy)
  · exact of_decide_eq_true (He.ba (He.ba (He.ba (He.ba (h1 x hx)).2).2).2).1
  · exact of_decide_eq_true (He.ba (He.ba (He.ba (He.ba (h1 x hx)).2).2).2).2
end U

set_option Elab.async false
set_option linter.all false
set_option maxRecDepth 100000
set_option maxHeartbeats 4000000
/-! A run has one end; so two wishes that both come true come true together. -/
namespace U
open PySem
theorem runs_one {M : Model} {Γ : Ctx} {p : Pos} {t : Sem Fin} {fs : List Frame} {s s₁ : Shared} {e : End} (h : Runs M Γ p t fs s e s₁) : ∀ {e₂ : End} {s₂ : Shared}, Runs M Γ p t fs s e₂ s₂ → e = e₂ ∧ s₁ = s₂ := by
  induction h with
  | done => intro e₂ s₂ g; cases g; exact ⟨rfl, rfl⟩
  | raise => intro e₂ s₂ g; cases g; exact ⟨rfl, rfl⟩
  | again _ _ ih => intro e₂ s₂ g; cases g with | again _ g => exact ih g
  | rule _ ih => intro e₂ s₂ g; cases g with | rule g => exact ih g
  | «at» _ ih => intro e₂ s₂ g; cases g with | «at» g => exact ih g
  | load a _ ih => intro e₂ s₂ g; cases g with | load b g => cases a.symm.trans b; exact ih g
  | update _ _ ih => intro e₂ s₂ g; cases g with | update _ g => exact ih g
  | loadIfAlive _ ih => intro e₂ s₂ g; cases g with | loadIfAlive g => exact ih g
  | point _ ih => intro e₂ s₂ g; cases g with | point g => exact ih g
  | alloc _ ih => intro e₂ s₂ g; cases g with | alloc g => exact ih g
  | fresh _ ih => intro e₂ s₂ g; cases g with | fresh g => exact ih g
  | ask _ ih => intro e₂ s₂ g; cases g with | ask g => exact ih g
  | choose _ _ ih => intro e₂ s₂ g; cases g with | choose _ g => exact ih g
  | os _ ih => intro e₂ s₂ g; cases g with | os g => exact ih g
  | handled _ ih => intro e₂ s₂ g; cases g with | handled g => exact ih g
  | genState a _ ih => intro e₂ s₂ g; cases g with | genState b g => cases a.symm.trans b; exact ih g
  | stack _ ih => intro e₂ s₂ g; cases g with | stack g => exact ih g
  | thread _ ih => intro e₂ s₂ g; cases g with | thread g => exact ih g
  | newGen _ ih => intro e₂ s₂ g; cases g with | newGen g => exact ih g
  | call _ _ i1 i2 =>
    intro e₂ s₂ g
    cases g with
    | call g1 g2 =>
      obtain ⟨a, b⟩ := i1 g1
      cases a
      cases b
      exact i2 g2
    | callSusp g1 => exact nomatch (i1 g1).1
  | callSusp _ i1 =>
    intro e₂ s₂ g
    cases g with
    | call g1 g2 => exact nomatch (i1 g1).1
    | callSusp g1 =>
      obtain ⟨a, b⟩ := i1 g1
      cases a
      cases b
      exact ⟨rfl, rfl⟩
  | yield => intro e₂ s₂ g; cases g; exact ⟨rfl, rfl⟩
  | resumeFresh a _ _ _ i1 i2 =>
    intro e₂ s₂ g
    cases g with
    | resumeFresh b g1 _ g2 =>
      cases a.symm.trans b
      obtain ⟨x, y⟩ := i1 g1
      cases x
      cases y
      exact i2 g2
    | resumeSuspended b => exact nomatch a.symm.trans b
    | resumeJustStarted b n => exact absurd rfl n
    | resumeRunning b => exact nomatch a.symm.trans b
    | resumeFinished b => exact nomatch a.symm.trans b
  | resumeSuspended a _ _ _ i1 i2 =>
    intro e₂ s₂ g
    cases g with
    | resumeFresh b g1 _ g2 => exact nomatch a.symm.trans b
    | resumeSuspended b g1 _ g2 =>
      cases a.symm.trans b
      obtain ⟨x, y⟩ := i1 g1
      cases x
      cases y
      exact i2 g2
    | resumeJustStarted b n => exact nomatch a.symm.trans b
    | resumeThrowFresh b => exact nomatch a.symm.trans b
    | resumeRunning b => exact nomatch a.symm.trans b
    | resumeFinished b => exact nomatch a.symm.trans b
  | resumeJustStarted a m _ ih =>
    intro e₂ s₂ g
    cases g with
    | resumeFresh b g1 _ g2 => exact absurd rfl m
    | resumeSuspended b g1 _ g2 => exact nomatch a.symm.trans b
    | resumeJustStarted b n g => exact ih g
    | resumeRunning b => exact nomatch a.symm.trans b
    | resumeFinished b => exact nomatch a.symm.trans b
  | resumeThrowFresh a _ ih =>
    intro e₂ s₂ g
    cases g with
    | resumeSuspended b g1 _ g2 => exact nomatch a.symm.trans b
    | resumeThrowFresh b g => exact ih g
    | resumeRunning b => exact nomatch a.symm.trans b
    | resumeFinished b => exact nomatch a.symm.trans b
  | resumeRunning a _ ih =>
    intro e₂ s₂ g
    cases g with
    | resumeFresh b g1 _ g2 => exact nomatch a.symm.trans b
    | resumeSuspended b g1 _ g2 => exact nomatch a.symm.trans b
    | resumeJustStarted b n g => exact nomatch a.symm.trans b
    | resumeThrowFresh b => exact nomatch a.symm.trans b
    | resumeRunning b g => exact ih g
    | resumeFinished b => exact nomatch a.symm.trans b
  | resumeFinished a _ ih =>
    intro e₂ s₂ g
    cases g with
    | resumeFresh b g1 _ g2 => exact nomatch a.symm.trans b
    | resumeSuspended b g1 _ g2 => exact nomatch a.symm.trans b
    | resumeJustStarted b n g => exact nomatch a.symm.trans b
    | resumeThrowFresh b => exact nomatch a.symm.trans b
    | resumeRunning b => exact nomatch a.symm.trans b
    | resumeFinished b g => exact ih g
  | segRet _ _ i1 i2 =>
    intro e₂ s₂ g
    cases g with
    | segRet g1 g2 =>
      obtain ⟨x, y⟩ := i1 g1
      cases x
      cases y
      exact i2 g2
    | segSuspOut _ g1 => exact nomatch (i1 g1).1
    | segSuspGen _ g1 => exact nomatch (i1 g1).1
  | segGen _ _ i1 i2 =>
    intro e₂ s₂ g
    cases g with
    | segGen g1 g2 =>
      obtain ⟨x, y⟩ := i1 g1
      cases x
      cases y
      exact i2 g2
    | segSuspOut _ g1 => exact nomatch (i1 g1).1
    | segSuspGen _ g1 => exact nomatch (i1 g1).1
  | segSuspOut a _ i1 =>
    intro e₂ s₂ g
    cases g with
    | segRet g1 g2 => exact nomatch (i1 g1).1
    | segGen g1 g2 => exact nomatch (i1 g1).1
    | segSuspOut _ g1 =>
      obtain ⟨x, y⟩ := i1 g1
      cases x
      cases y
      exact ⟨rfl, rfl⟩
    | segSuspGen b g1 => exact nomatch a.symm.trans b
  | segSuspGen a _ _ _ i1 i2 =>
    intro e₂ s₂ g
    cases g with
    | segRet g1 g2 => exact nomatch (i1 g1).1
    | segGen g1 g2 => exact nomatch (i1 g1).1
    | segSuspOut b g1 => exact nomatch a.symm.trans b
    | segSuspGen b g1 _ g2 =>
      cases a.symm.trans b
      obtain ⟨x, y⟩ := i1 g1
      cases x
      cases y
      exact i2 g2
theorem wakes_one {M : Model} {Γ : Ctx} {p : Pos} {g : Nat} {r : Resume} {s s₁ s₂ : Shared} {a b : GenResult} (h : Wakes M Γ p g r s a s₁) (k : Wakes M Γ p g r s b s₂) : a = b ∧ s₁ = s₂ := by
  unfold Wakes at h k
  split at h
  · exact h.elim
  · rename_i c hc
    rw [hc] at k
    dsimp only at k
    split at h
    · obtain ⟨e1, x1, r1, _, rfl, rfl⟩ := h
      obtain ⟨e2, x2, r2, _, rfl, rfl⟩ := k
      obtain ⟨rfl, rfl⟩ := runs_one r1 r2
      exact ⟨rfl, rfl⟩
    · rename_i v hv
      split at k
      · rename_i e
        first | exact (hv rfl).elim | (cases e; exact (hv rfl).elim)
      · exact ⟨h.1.trans k.1.symm, h.2.trans k.2.symm⟩
      · rename_i e
        cases e
    · exact ⟨h.1.trans k.1.symm, h.2.trans k.2.symm⟩
  · rename_i hc
    rw [hc] at k
    obtain ⟨e1, x1, r1, _, rfl, rfl⟩ := h
    obtain ⟨e2, x2, r2, _, rfl, rfl⟩ := k
    obtain ⟨rfl, rfl⟩ := runs_one r1 r2
    exact ⟨rfl, rfl⟩
  · rename_i hc
    rw [hc] at k
    exact ⟨h.1.trans k.1.symm, h.2.trans k.2.symm⟩
  · rename_i hc
    rw [hc] at k
    exact ⟨h.1.trans k.1.symm, h.2.trans k.2.symm⟩
theorem wp_and {α : Type} {M : Model} {Γ : Ctx} {Q Q' : α → Pos → Shared → Prop} {E E' : Value → Pos → Shared → Prop} (t : Sem α) : ∀ {p : Pos} {s : Shared}, Sem.wp M Γ t Q E p s → Sem.wp M Γ t Q' E' p s →
    Sem.wp M Γ t (fun a p s => Q a p s ∧ Q' a p s) (fun e p s => E e p s ∧ E' e p s) p s := by
  induction t with
  | load a part k ih =>
    intro p s h g
    rw [Sem.wp] at h g ⊢
    obtain ⟨o, e, h⟩ := h
    obtain ⟨o', e', g⟩ := g
    cases e.symm.trans e'
    exact ⟨o, e, ih o h g⟩
  | update a part f k ih =>
    intro p s h g
    rw [Sem.wp] at h g ⊢
    exact ⟨h.1, ih () h.2 g.2⟩
  | choose src n k ih =>
    intro p s h g
    rw [Sem.wp] at h g ⊢
    exact ⟨h.1, ih _ h.2 g.2⟩
  | call c hd gd l k ih =>
    intro p s h g
    rw [Sem.wp] at h g ⊢
    obtain ⟨r, s1, r1, h⟩ := h
    obtain ⟨r', s2, r2, g⟩ := g
    obtain ⟨e1, rfl⟩ := runs_one r1 r2
    cases e1
    exact ⟨r, s1, r1, ih r h g⟩
  | genState gn k ih =>
    intro p s h g
    rw [Sem.wp] at h g ⊢
    obtain ⟨o, e, h⟩ := h
    obtain ⟨o', e', g⟩ := g
    cases e.symm.trans e'
    exact ⟨o, e, ih _ h g⟩
  | resume gn r l k ih =>
    intro p s h g
    rw [Sem.wp] at h g ⊢
    obtain ⟨x, s1, w1, h⟩ := h
    obtain ⟨y, s2, w2, g⟩ := g
    obtain ⟨rfl, rfl⟩ := wakes_one w1 w2
    exact ⟨x, s1, w1, ih x h g⟩
  | pure => intro p s h g; rw [Sem.wp] at h g ⊢; exact ⟨h, g⟩
  | raise => intro p s h g; rw [Sem.wp] at h g ⊢; exact ⟨h, g⟩
  | unsupported => intro p s h g; rw [Sem.wp] at h; exact h.elim
  | finish => intro p s h g; rw [Sem.wp] at h; exact h.elim
  | register => intro p s h g; rw [Sem.wp] at h; exact h.elim
  | yield => intro p s h g; rw [Sem.wp] at h; exact h.elim
  | fork => intro p s h g; rw [Sem.wp] at h; exact h.elim
  | await => intro p s h g; rw [Sem.wp] at h; exact h.elim
  | rule tag k ih => intro p s h g; rw [Sem.wp] at h g ⊢; exact ih _ h g
  | «at» q k ih => intro p s h g; rw [Sem.wp] at h g ⊢; exact ih _ h g
  | loadIfAlive a k ih => intro p s h g; rw [Sem.wp] at h g ⊢; exact ih _ h g
  | point l k ih => intro p s h g; rw [Sem.wp] at h g ⊢; exact ih _ h g
  | alloc o k ih => intro p s h g; rw [Sem.wp] at h g ⊢; exact ih _ h g
  | fresh k ih => intro p s h g; rw [Sem.wp] at h g ⊢; exact ih _ h g
  | ask k ih => intro p s h g; rw [Sem.wp] at h g ⊢; exact ih _ h g
  | os q l k ih => intro p s h g; rw [Sem.wp] at h g ⊢; exact ih _ h g
  | handled own k ih => intro p s h g; rw [Sem.wp] at h g ⊢; exact ih _ h g
  | newGen c k ih => intro p s h g; rw [Sem.wp] at h g ⊢; exact ih _ h g
  | stack k ih => intro p s h g; rw [Sem.wp] at h g ⊢; exact ih _ h g
  | thread k ih => intro p s h g; rw [Sem.wp] at h g ⊢; exact ih _ h g
end U

set_option Elab.async false
set_option linter.all false
set_option maxRecDepth 100000
set_option maxHeartbeats 4000000
/-! try: one statement, except X as n: .., else: .. : out of the rule without else, since a run has one end. -/
namespace U
open PySem PySem.Spec PyProof.Rows L2
/-- what a try without finally does, as its parts do -/
theorem try_wp {prog : Program} {w : World} {Γ : PySem.Ctx} {env : Env} {body orelse : List Stmt} {h₀ : ExceptHandler} {hs : List ExceptHandler} {pos p : Pos} {s : Shared} {Q : Flow → Pos → Shared → Prop} {E : Value → Pos → Shared → Prop} :
    Sem.wp (model prog w) Γ (exec (.Try body (h₀ :: hs) orelse [] pos) env) Q E p s =
      Sem.wp (model prog w) Γ (execs body env) (fun f p' s' => Sem.wp (model prog w) Γ (match f with | .next => execs orelse env | f => pure f) Q E p' s')
        (fun e p' s' => Sem.wp (model prog w) Γ (noteFrame e env >>= fun _ => setFlight e none >>= fun _ => handleBy e env (h₀ :: hs)) Q E p' s') pos s := by
  rw [arm_exec_Try]
  unfold tryStmt standAt
  simp only [List.isEmpty_nil, if_true, List.isEmpty_cons, Bool.false_and, Bool.false_eq_true, if_false]
  rw [Sem.wp_bind', Sem.wp_at, Sem.wp_pure, Sem.wp_bind', Sem.wp_attempt]
  congr 1
  · funext f p' s'
    cases f <;> rfl
/-- its reading -/
def tTryE (K : PySem.W.Frag) (c : Value) (i : Nat) (tb : WX → TS) (ts : Addr → Value → Option Addr → TS) (Wout : WX) (u : TS) : TS := fun D σ H => ∀ (D' : Ends) (N : L2.St → Hp → Prop), (∀ σ H, D.nx σ H → D'.nx σ H) → (∀ σ H, D.bk σ H → D'.bk σ H) → (∀ σ H, D.ct σ H → D'.ct σ H) → (∀ v H, D.rt v H → D'.rt v H) →
  (∀ σ H, u D σ H → N σ H) → tb (wAs K c i ts Wout D') { D' with nx := N } σ H
/-- try: b, except x as n: suite, else: orelse -/
theorem ps_tryE {X : Cx} {x n : Str} {c : Value} {i : Nat} {b b₀ : Stmt} {suite orelse : List Stmt} {np pos pos' : Pos} {tb : WX → TS} {ts : Addr → Value → Option Addr → TS} {Wout : WX} {u : TS}
    (ho : PSs X orelse u) (hs : X.stack = X.env :: X.outer) (hf : X.env.frame = some X.env.locals) (hN : X.N.Nodup) (hi : X.N[i]? = some n) (hln : X.env.kindOf n = some .local) (hc : Names X x c) (tk : Takes X Wout)
    (hb : ∀ (W : WX) (pn : List (Addr × Obj)) (xe : Value → Shared → Prop), Takes (X.tr pn xe) W → PS (X.tr pn xe) b (tb W))
    (hsu : ∀ (a : Addr) (oe : Obj) (cls : Value) (d : Option Addr) (pn : List (Addr × Obj)), Zc cls d oe → (∃ vs, oe.data = .fields vs) → PSs (X.suite a ((a, oe) :: pn)) (b₀ :: suite) (ts a cls d)) :
    PS X (.Try [b] [.ExceptHandler (some (.Name x np)) (some n) (b₀ :: suite) pos'] orelse [] pos) (tTryE X.K c i tb ts Wout u) := by
  refine ⟨fun pins s σ H D I h Γ p hΓ => ?_⟩
  have ok := I.ok
  -- the same without else, leaving by break, and by continue
  have way : ∀ (z : Stmt) (tz : TS) (D' : Ends), (∀ Y : Cx, PS Y z tz) → (∀ σ H, tz D' σ H) → (∀ σ H, D.nx σ H → D'.nx σ H) → (∀ σ H, D.bk σ H → D'.bk σ H) → (∀ σ H, D.ct σ H → D'.ct σ H) → (∀ v H, D.rt v H → D'.rt v H) →
      Sem.wp (model X.prog X.w) Γ (exec b X.env) (fun _ _ _ => True) (fun e p' s' => Sem.wp (model X.prog X.w) Γ (noteFrame e X.env >>= fun _ => setFlight e none >>= fun _ => handleBy e X.env [.ExceptHandler (some (.Name x np)) (some n) (b₀ :: suite) pos']) (fun f _ s => SP X pins D' f s) (fun e _ s => X.xe e s) p' s') pos s := fun z tz D' hz ez k1 k2 k3 k4 => by
    have r := (ps_try_as (pos := pos) (pos' := pos') (np := np) hs hf hN hi hln hc tk (tb := fun W => tSeq (tb W) tz) (fun W pn xe tk' _ => pss_cons (hb W pn xe tk') (pss_one (hz _))) hsu).run pins s σ H D' I (h D' _ k1 k2 k3 k4 fun σ H _ => ez σ H) Γ p hΓ
    rw [try_wp, execs_cons, Sem.wp_bind'] at r
    exact Sem.wp_mono _ _ _ (fun _ _ _ _ => trivial) (fun _ _ _ q => q) _ _ r
  have wB := way (.Break pos) tBreak { D with bk := fun _ _ => True } (fun Y => ps_break) (fun _ _ => trivial) (fun _ _ q => q) (fun _ _ _ => trivial) (fun _ _ q => q) (fun _ _ q => q)
  have wC := way (.Continue pos) tCont { D with ct := fun _ _ => True } (fun Y => ps_continue) (fun _ _ => trivial) (fun _ _ q => q) (fun _ _ q => q) (fun _ _ _ => trivial) (fun _ _ q => q)
  -- the body alone
  have wA := (hb (wAs X.K c i ts Wout D) (X.pn ++ pins) (fun _ _ => True) (fun _ _ _ => trivial)).run [] s σ H { D with nx := u D } (I.toTry _) (h D (u D) (fun _ _ q => q) (fun _ _ q => q) (fun _ _ q => q) (fun _ _ q => q) (fun _ _ q => q)) Γ pos hΓ
  rw [try_wp, execs_cons, Sem.wp_bind']
  refine Sem.wp_mono _ _ _ (fun f p' s' q => ?_) (fun e p' s' q => ?_) _ _ (wp_and _ wA (wp_and _ wB wC))
  · cases f with
    | next =>
      obtain ⟨σ', H', J, w⟩ := q.1
      exact ho.run pins s' σ' H' D (J.ofTry ok) w Γ p' hΓ
    | brk =>
      obtain ⟨σ', H', J, w⟩ := q.1
      exact ⟨σ', H', J.ofTry ok, w⟩
    | cont =>
      obtain ⟨σ', H', J, w⟩ := q.1
      exact ⟨σ', H', J.ofTry ok, w⟩
    | ret v =>
      obtain ⟨y, σ', H', J, rv, w⟩ := q.1
      exact ⟨y, σ', H', J.ofTry ok, rv, w⟩
  · refine Sem.wp_mono _ _ _ (fun f p' s' q => ?_) (fun e p' s' q => q.1) _ _ (wp_and _ q.2.1 q.2.2)
    cases f with
    | next => exact q.1
    | brk => exact q.2
    | cont => exact q.1
    | ret v => exact q.1
end U

set_option Elab.async false
set_option linter.all false
set_option maxRecDepth 100000
set_option maxHeartbeats 4000000
/-! Promises: is_name, People. -/
namespace G
open PySem PySem.Spec PyProof.Rows L2 U

/-- is_name(thing) -/
def sp_is_name (K : PySem.W.Frag) : Sp := fun vs H Q _ => match vs with
  | [v] => Kn K H v ∧ ∀ H', Same H H' → Q (.bl (isNm v)) H'
  | _ => False

/-! ### People -/
/-- the people of a house: names with their numbers, numbers with their names, how many numbers were given -/
structure Ppl where
  nm : List (Str × Int)
  nu : List (Int × Str)
  many : Nat
def nmD (l : List (Str × Int)) : List (Key × V) := l.map fun q => (Sum.inr q.1, V.int q.2)
def nuD (l : List (Int × Str)) : List (Key × V) := l.map fun q => (Sum.inl q.1, V.str q.2)
def fPpl (d1 d2 : Addr) (n : Int) : List (Str × V) := [("by_name", .ref d1), ("by_number", .ref d2), ("many", .int n)]
structure PplAt (K : PySem.W.Frag) (H : Hp) (p d1 d2 : Addr) (S : Ppl) : Prop where
  ob : ∃ dx, H p = some (.ins (He.ga K "People") dx (fPpl d1 d2 S.many))
  h1 : H d1 = some (.dK (nmD S.nm))
  h2 : H d2 = some (.dK (nuD S.nu))
  ne : d1 ≠ d2
  l1 : S.nm.length ≤ 1000
  l2 : S.nu.length ≤ 1000
  lt : ∀ q ∈ S.nu, q.1 ≤ S.many
def Ppl.look (S : Ppl) (x : Str) : Option Int := S.nm.lookup x
def Ppl.name (S : Ppl) (n : Int) : Option Str := S.nu.lookup n
/-- a name comes -/
def Ppl.come (S : Ppl) (x : Str) : Ppl := match S.look x with
  | some _ => S
  | none => ⟨S.nm ++ [(x, (S.many : Int) + 1)], S.nu ++ [((S.many : Int) + 1, x)], S.many + 1⟩
def Ppl.num (S : Ppl) (x : Str) : Int := match S.look x with
  | some n => n
  | none => (S.many : Int) + 1

def sp_People___init__ (K : PySem.W.Frag) : Sp := fun vs H Q _ => match vs with
  | [.ref p] => ∃ dx, H p = some (.ins (He.ga K "People") dx []) ∧ ∀ d1 d2 H', PplAt K H' p d1 d2 ⟨[], [], 0⟩ → H d1 = none → H d2 = none → Keep [p] H H' → Q .non H'
  | _ => False
def sp_People_known (K : PySem.W.Frag) : Sp := fun vs H Q _ => match vs with
  | [.ref p, v] => ∃ d1 d2 S, PplAt K H p d1 d2 S ∧ Kn K H v ∧ (isNm v = false → ∀ H', Same H H' → Q .non H') ∧ (∀ x, v = .str x → isNm v = true → ∀ H', Same H H' → Q (((S.look x).map V.int).getD .non) H')
  | _ => False
def sp_People_number_of (K : PySem.W.Frag) : Sp := fun vs H Q E => match vs with
  | [.ref p, v] => ∃ d1 d2 S, PplAt K H p d1 d2 S ∧ S.nm.length < 1000 ∧ S.nu.length < 1000 ∧ Kn K H v ∧ (isNm v = false → ∀ H', Same H H' → E (.ref (He.ga K "NoName")) none H') ∧
    (∀ x, v = .str x → isNm v = true → ∀ H', PplAt K H' p d1 d2 (S.come x) → Keep [p, d1, d2] H H' → Q (.int (S.num x)) H')
  | _ => False
def sp_People_cut_off (K : PySem.W.Frag) : Sp := fun vs H Q E => match vs with
  | [.ref p, v] => ∃ d1 d2 S, PplAt K H p d1 d2 S ∧ Kn K H v ∧ (isNm v = false → ∀ H', Same H H' → E (.ref (He.ga K "NoPerson")) none H') ∧
    (∀ x, v = .str x → isNm v = true → S.look x = none → ∀ H', Same H H' → E (.ref (He.ga K "NoPerson")) none H') ∧
    (∀ x n, v = .str x → isNm v = true → S.look x = some n → ∀ H', PplAt K H' p d1 d2 ⟨S.nm.filter (fun q => decide (q.1 ≠ x)), S.nu, S.many⟩ → Keep [d1] H H' → Q (.int n) H')
  | _ => False
def sp_People_name_of (K : PySem.W.Frag) : Sp := fun vs H Q _ => match vs with
  | [.ref p, .int n] => ∃ d1 d2 S, PplAt K H p d1 d2 S ∧ Q (((S.name n).map V.str).getD .non) H
  | _ => False
def sp_People_numbers (K : PySem.W.Frag) : Sp := fun vs H Q _ => match vs with
  | [.ref p] => ∃ d1 d2 S, PplAt K H p d1 d2 S ∧ S.nu.length < 64 ∧ ∀ (ys : List Int) H' a, ys.Perm (S.nu.map (·.1)) → ys.Pairwise (· ≤ ·) → H a = none → Same H H' → H' a = some (.lst (ys.map V.int)) → Q (.ref a) H'
  | _ => False
end G

set_option Elab.async false
set_option linter.all false
set_option maxRecDepth 100000
set_option maxHeartbeats 4000000

/-! Readings, printed by gen.py. -/
namespace G
open PySem PySem.Spec PyProof.Rows L2 U
abbrev N_is_name : List Str := ["thing", "letter"]
def t_is_name (K : PySem.W.Frag) : TS :=
  (tSeq (tIfS (tOr (tNot (tB (tCB (rIsi K) (tCons (tVar 0) (tCons (tC (.ty "str")) tNil))))) (tOr (tTest (tOp rEq (tVar 0) (tC (.str "")))) (tTest (tOp rGtI (tCB rLenStr (tCons (tVar 0) tNil)) (tC (.int 8)))))) (tRet (tC (.bl false))) tNext)
  (tRet (tCB (rAll K) (tCons (tLc (iStr (tVar 0)) (gName 1) tYes (tOp rInSg (tVar 1) (tC (.str "abcdefghijklmnopqrstuvwxyz"))) [1]) tNil))))
abbrev N_People_known : List Str := ["self", "name"]
def t_People_known (K : PySem.W.Frag) : TS :=
  (tSeq (tIfS (tNot (tB (tCl (sp_is_name K) [] ES0 (tCons (tVar 1) tNil)))) (tRet (tC .non)) tNext)
  (tRet (tDGet1 (tFd (He.ga K "People") (tVar 0) "by_name") (tVar 1))))
abbrev N_People_name_of : List Str := ["self", "number"]
def t_People_name_of (K : PySem.W.Frag) : TS :=
  (tRet (tDGet1 (tFd (He.ga K "People") (tVar 0) "by_number") (tVar 1)))
abbrev N_People_number_of : List Str := ["self", "name"]
def t_People_number_of (K : PySem.W.Frag) (W : WX) : TS :=
  (tSeq (tIfS (tNot (tB (tCl (sp_is_name K) [] ES0 (tCons (tVar 1) tNil)))) (tRs (He.ga K "NoName") W) tNext)
  (tSeq (tIfS (tB (tDNotIn (tVar 1) (tFd (He.ga K "People") (tVar 0) "by_name"))) (tSeq (sFdAdd (He.ga K "People") (tVar 0) (tC (.int 1)) "many")
  (tSeq (sDPut (tFd (He.ga K "People") (tVar 0) "by_name") (tVar 1) (tFd (He.ga K "People") (tVar 0) "many"))
  (sDPut (tFd (He.ga K "People") (tVar 0) "by_number") (tFd (He.ga K "People") (tVar 0) "many") (tVar 1)))) tNext)
  (tRet (tDGet (tFd (He.ga K "People") (tVar 0) "by_name") (tVar 1)))))
abbrev N_People_numbers : List Str := ["self"]
def t_People_numbers (K : PySem.W.Frag) : TS :=
  (tRet (tCB rSortedKV (tCons (tKeysV (tFd (He.ga K "People") (tVar 0) "by_number")) tNil)))
abbrev N_People___init__ : List Str := ["self"]
def t_People___init__ (K : PySem.W.Frag) : TS :=
  (tSeq (sFd (He.ga K "People") (tVar 0) tDNewK "by_name")
  (tSeq (sFd (He.ga K "People") (tVar 0) tDNewK "by_number")
  (sFd (He.ga K "People") (tVar 0) (tC (.int 0)) "many")))
abbrev N_People_cut_off : List Str := ["self", "name", "number"]
def t_People_cut_off (K : PySem.W.Frag) (W : WX) : TS :=
  (tSeq (tAsg (tMt (He.ga K "People") "known" (sp_People_known K) [] ES0 (tVar 0) (tCons (tVar 1) tNil)) (gName 2))
  (tSeq (tIfS (tTest (tOp rIsNn (tVar 2) (tC .non))) (tRs (He.ga K "NoPerson") W) tNext)
  (tSeq (tDrop (tDPop1 (tFd (He.ga K "People") (tVar 0) "by_name") (tVar 1)))
  (tRet (tVar 2)))))
end G

set_option Elab.async false
set_option linter.all false
set_option maxRecDepth 100000
set_option maxHeartbeats 4000000
/-! The readings of is_name and of People keep their promises. -/
namespace G
open PySem PySem.Spec PyProof.Rows L2 U
variable {K : PySem.W.Frag}

theorem pure_is_name (vs : List V) (H : Hp) (Q : VK) (E : XK) (h : sp_is_name K vs H Q E) : t_is_name K { nx := fun _ H' => Q .non H', rt := Q } (start N_is_name vs) H := by
  unfold sp_is_name at h
  split at h
  · rename_i v
    obtain ⟨kn, k⟩ := h
    obtain ⟨T, ty, kt⟩ := kn.isS K
    refine ⟨v, rfl, v, _, _, _, _, rfl, .ty "str", ty, kt, _, rfl, ?_⟩
    cases hs : isStrV v
    rotate_left
    · obtain ⟨z, rfl⟩ := isStrV_str hs
      refine iteF ?_
      refine ⟨_, rfl, rfl, _, rfl, ?_⟩
      by_cases h0 : z = ""
      · subst h0
        refine iteT (iteT ?_)
        exact k H (Same.refl H)
      · have e0 : decide (V.str z = V.str "") = false := decide_eq_false (fun e => h0 (V.str.inj e))
        rw [e0]
        refine iteF ?_
        refine ⟨_, rfl, z, rfl, Nat.le_trans kn.tx.len (by decide), _, _, rfl, rfl, _, rfl, ?_⟩
        have hz : z.length ≠ 0 := fun e => h0 (by
          obtain ⟨a⟩ := z
          have e1 : a.size = 0 := e
          have e2 : a = #[] := Array.eq_empty_of_size_eq_zero e1
          rw [e2]
          rfl)
        by_cases h8 : (8 : Int) < z.length
        · refine ite2 (fun _ => ?_) (fun n => absurd (decide_eq_true h8) n)
          have e1 : isNm (V.str z) = false := by
            show isNmS z = false
            unfold isNmS
            rw [decide_eq_false (show ¬ z.length ≤ 8 by omega)]
            simp
          have e2 := k H (Same.refl H)
          rw [e1] at e2
          exact e2
        · refine ite2 (fun n => absurd (of_decide_eq_true n) h8) (fun _ => ?_)
          refine ⟨_, rfl, z, rfl, fun D hD => ?_⟩
          refine lcs_m (fun c => V.bl (decide (c ∈ abc.cps.toList))) (show z.length ≤ 1000000 from Nat.le_trans kn.tx.len (by decide)) (fun c acc R _ r => ?_) ?_
          · exact ⟨_, rfl, c, _, rfl, rfl, r⟩
          · refine ⟨D, z.cps.toList.map (fun c => decide (c ∈ abc.cps.toList)), rfl, ?_, ?_⟩
            · refine SqL.of ?_
              rw [upd_same, List.map_map]
              rfl
            · have e2 := k (upd H D (.lst (List.map (fun c => V.bl (decide (c ∈ abc.cps.toList))) z.cps.toList))) (same_new hD)
              have e1 : isNm (V.str z) = (z.cps.toList.map (fun c => decide (c ∈ abc.cps.toList))).all id := by
                show isNmS z = _
                unfold isNmS
                rw [decide_eq_true (show 1 ≤ z.length by omega), decide_eq_true (show z.length ≤ 8 by omega)]
                simp [List.all_map, Function.comp_def]
              rw [e1] at e2
              exact e2
    · refine iteT (iteT ?_)
      have e1 : isNm v = false := isNm_notStr hs
      have e2 := k H (Same.refl H)
      rw [e1] at e2
      exact e2
  · exact h.elim

/-! ### fields -/
theorem fP_name {d1 d2 : Addr} {n : Int} : List.lookup ("by_name" : Str) (fPpl d1 d2 n) = some (V.ref d1) := by rfl
theorem fP_number {d1 d2 : Addr} {n : Int} : List.lookup ("by_number" : Str) (fPpl d1 d2 n) = some (V.ref d2) := by rfl
theorem fP_many {d1 d2 : Addr} {n : Int} : List.lookup ("many" : Str) (fPpl d1 d2 n) = some (V.int n) := by rfl
theorem fP_put {d1 d2 : Addr} {n m : Int} : putF "many" (.int m) (fPpl d1 d2 n) = fPpl d1 d2 m := by rfl

/-! ### the dicts -/
theorem nmD_val : ∀ (l : List (Str × Int)) (x : Str), valV (nmD l) (Sum.inr x) = (l.lookup x).map V.int
  | [], x => rfl
  | (y, n) :: r, x => by
    show ((((Sum.inr y : Key), V.int n) :: nmD r).find? fun kv => decide (kv.1 = Sum.inr x)).map (·.2) = _
    rw [List.find?_cons, List.lookup_cons]
    by_cases e : y = x
    · subst e
      simp
    · have e1 : decide ((Sum.inr y : Key) = Sum.inr x) = false := decide_eq_false (fun z => e (Sum.inr.inj z))
      have e2 : (x == y) = false := beq_eq_false_iff_ne.mpr (fun z => e z.symm)
      simp only [e1, e2]
      exact nmD_val r x
theorem nuD_val : ∀ (l : List (Int × Str)) (x : Int), valV (nuD l) (Sum.inl x) = (l.lookup x).map V.str
  | [], x => rfl
  | (y, n) :: r, x => by
    show ((((Sum.inl y : Key), V.str n) :: nuD r).find? fun kv => decide (kv.1 = Sum.inl x)).map (·.2) = _
    rw [List.find?_cons, List.lookup_cons]
    by_cases e : y = x
    · subst e
      simp
    · have e1 : decide ((Sum.inl y : Key) = Sum.inl x) = false := decide_eq_false (fun z => e (Sum.inl.inj z))
      have e2 : (x == y) = false := beq_eq_false_iff_ne.mpr (fun z => e z.symm)
      simp only [e1, e2]
      exact nuD_val r x
theorem nmD_len (l : List (Str × Int)) : (nmD l).length = l.length := List.length_map _
theorem nuD_len (l : List (Int × Str)) : (nuD l).length = l.length := List.length_map _

theorem pure_People_known (vs : List V) (H : Hp) (Q : VK) (E : XK) (h : sp_People_known K vs H Q E) : t_People_known K { nx := fun _ H' => Q .non H', rt := Q } (start N_People_known vs) H := by
  unfold sp_People_known at h
  split at h
  · rename_i p v
    obtain ⟨d1, d2, S, P, kn, k1, k2⟩ := h
    obtain ⟨dx, hp⟩ := P.ob
    refine ⟨v, rfl, kn, fun H1 s1 => ⟨_, rfl, ?_⟩⟩
    cases hn : isNm v
    · exact iteT (k1 hn H1 s1)
    · obtain ⟨x, rfl⟩ := isNm_str hn
      refine iteF ?_
      refine ⟨_, rfl, p, dx, _, _, rfl, s1 _ _ hp, fP_name, d1, rfl, .inl ⟨_, .inl (s1 _ _ P.h1)⟩, _, rfl, _, DGet.k (k := Sum.inr x) (s1 _ _ P.h1), ?_⟩
      rw [nmD_val]
      exact k2 x rfl hn H1 s1
  · exact h.elim

theorem lookup_none_lt {l : List (Int × Str)} {m : Nat} (h : ∀ q ∈ l, q.1 ≤ (m : Int)) : l.lookup ((m : Int) + 1) = none := by
  induction l with
  | nil => rfl
  | cons q r ih =>
    rw [List.lookup_cons]
    have h1 := h q (List.mem_cons_self ..)
    have e : (((m : Int) + 1) == q.1) = false := beq_eq_false_iff_ne.mpr (by omega)
    rw [e]
    exact ih fun z hz => h z (List.mem_cons_of_mem _ hz)
theorem nm_put {l : List (Str × Int)} {x : Str} {n : Int} (h : l.lookup x = none) : putK (nmD l) (Sum.inr x) (V.int n) = nmD (l ++ [(x, n)]) := by
  rw [putK_new _ (by rw [nmD_val, h]; rfl)]
  unfold nmD
  rw [List.map_append]
  rfl
theorem nu_put {l : List (Int × Str)} {x : Str} {n : Int} (h : l.lookup n = none) : putK (nuD l) (Sum.inl n) (V.str x) = nuD (l ++ [(n, x)]) := by
  rw [putK_new _ (by rw [nuD_val, h]; rfl)]
  unfold nuD
  rw [List.map_append]
  rfl
theorem nm_drop (l : List (Str × Int)) (x : Str) : dropK (nmD l) (Sum.inr x) = nmD (l.filter fun q => decide (q.1 ≠ x)) := by
  unfold dropK nmD
  rw [List.filter_map]
  congr 1
  refine List.filter_congr fun q _ => ?_
  by_cases e : q.1 = x
  · simp [e]
  · simp [e]

theorem pure_People_number_of (vs : List V) (H : Hp) (Q : VK) (E : XK) (h : sp_People_number_of K vs H Q E) : t_People_number_of K (fun cls d _ H => E cls d H) { nx := fun _ H' => Q .non H', rt := Q } (start N_People_number_of vs) H := by
  unfold sp_People_number_of at h
  split at h
  · rename_i p v
    obtain ⟨d1, d2, S, P, l1, l2, kn, k1, k2⟩ := h
    obtain ⟨dx, hp⟩ := P.ob
    refine ⟨v, rfl, kn, fun H1 s1 => ⟨_, rfl, ?_⟩⟩
    cases hn : isNm v
    · exact iteT (k1 hn H1 s1)
    · obtain ⟨x, rfl⟩ := isNm_str hn
      refine iteF ?_
      have hp1 := s1 _ _ hp
      have a1 := s1 _ _ P.h1
      have a2 := s1 _ _ P.h2
      have np1 : p ≠ d1 := ne_of hp1 a1 (by intro q; cases q)
      have np2 : p ≠ d2 := ne_of hp1 a2 (by intro q; cases q)
      refine ⟨_, rfl, _, rfl, p, dx, _, _, rfl, hp1, fP_name, d1, _, rfl, DGet.k (k := Sum.inr x) a1, _, rfl, ?_⟩
      rw [nmD_val]
      have k3 := k2 x rfl hn
      unfold Ppl.come Ppl.num Ppl.look at k3
      cases hl : S.nm.lookup x with
      | some n =>
        rw [hl] at k3
        refine iteF ?_
        refine ⟨_, rfl, p, dx, _, _, rfl, hp1, fP_name, _, rfl, d1, V.int n, rfl, .inl ⟨_, Sum.inr x, .inl a1, rfl, by rw [nmD_val, hl]; rfl⟩, ?_⟩
        exact k3 H1 ⟨⟨dx, hp1⟩, a1, a2, P.ne, P.l1, P.l2, P.lt⟩ (.same s1)
      | none =>
        rw [hl] at k3
        refine iteT ?_
        refine ⟨_, rfl, p, dx, _, _, rfl, hp1, fP_many, _, dx, _, rfl, hp1, (by show 3 < 1000; decide), ?_⟩
        rw [fP_put]
        refine ⟨_, rfl, p, dx, _, _, rfl, upd_same, fP_many, _, rfl, p, dx, _, _, rfl, upd_same, fP_name, _, rfl, d1, _, rfl, DPut.k (k := Sum.inr x) (by rw [upd_ne np1.symm]; exact a1) (by rw [nmD_len, sizeLine_eq]; omega), ?_⟩
        rw [nm_put hl]
        refine ⟨_, rfl, _, rfl, p, dx, _, _, rfl, by rw [upd_ne np1, upd_same], fP_number, _, rfl, p, dx, _, _, rfl, by rw [upd_ne np1, upd_same], fP_many, d2, _, rfl,
          DPut.k (k := Sum.inl ((S.many : Int) + 1)) (by rw [upd_ne P.ne.symm, upd_ne np2.symm]; exact a2) (by rw [nuD_len, sizeLine_eq]; omega), ?_⟩
        rw [nu_put (lookup_none_lt P.lt)]
        refine ⟨_, rfl, p, dx, _, _, rfl, by rw [upd_ne np2, upd_ne np1, upd_same], fP_name, _, rfl, d1, V.int ((S.many : Int) + 1), rfl, .inl ⟨_, Sum.inr x, .inl (by rw [upd_ne P.ne, upd_same]), rfl, ?_⟩, ?_⟩
        · rw [nmD_val, List.lookup_append, hl]
          simp
        · refine k3 _ ⟨⟨dx, by rw [upd_ne np2, upd_ne np1, upd_same]; rfl⟩, by rw [upd_ne P.ne, upd_same], upd_same, P.ne, ?_, ?_, ?_⟩ ?_
          · show (S.nm ++ [(x, (S.many : Int) + 1)]).length ≤ 1000
            rw [List.length_append, List.length_singleton]
            omega
          · show (S.nu ++ [((S.many : Int) + 1, x)]).length ≤ 1000
            rw [List.length_append, List.length_singleton]
            omega
          · intro q hq
            rcases List.mem_append.mp hq with hq | hq
            · have := P.lt q hq
              show q.1 ≤ ((S.many + 1 : Nat) : Int)
              omega
            · rw [List.mem_singleton.mp hq]
              show (S.many : Int) + 1 ≤ ((S.many + 1 : Nat) : Int)
              omega
          · exact (((Keep.same s1).put (by simp)).put (by simp)).put (by simp)
  · exact h.elim

theorem pure_People_cut_off (vs : List V) (H : Hp) (Q : VK) (E : XK) (h : sp_People_cut_off K vs H Q E) : t_People_cut_off K (fun cls d _ H => E cls d H) { nx := fun _ H' => Q .non H', rt := Q } (start N_People_cut_off vs) H := by
  unfold sp_People_cut_off at h
  split at h
  · rename_i p v
    obtain ⟨d1, d2, S, P, kn, k1, k2, k3⟩ := h
    obtain ⟨dx, hp⟩ := P.ob
    refine ⟨_, rfl, p, dx, _, rfl, hp, (by rfl), _, rfl, d1, d2, S, P, kn, fun hn H1 s1 => ?_, fun x e hn H1 s1 => ?_⟩
    · exact ⟨_, rfl, rfl, _, rfl, iteT (k1 hn H1 s1)⟩
    · subst e
      cases hl : S.look x with
      | none => exact ⟨_, rfl, rfl, _, rfl, iteT (k2 x rfl hn hl H1 s1)⟩
      | some n =>
        refine ⟨_, rfl, rfl, _, rfl, iteF ?_⟩
        have hp1 := s1 _ _ hp
        have a1 := s1 _ _ P.h1
        have a2 := s1 _ _ P.h2
        refine ⟨_, rfl, p, dx, _, _, rfl, hp1, fP_name, d1, rfl, .inl ⟨_, .inl a1⟩, _, rfl, _, Sum.inr x, V.int n, a1, rfl, by rw [nmD_val]; show (S.look x).map V.int = _; rw [hl]; rfl, ?_⟩
        rw [nm_drop]
        refine ⟨_, rfl, k3 x n rfl hn hl _ ⟨⟨dx, ?_⟩, upd_same, ?_, P.ne, ?_, P.l2, P.lt⟩ ((Keep.same s1).put (by simp))⟩
        · rw [upd_ne (ne_of hp1 a1 (by intro q; cases q))]
          exact hp1
        · rw [upd_ne P.ne.symm]
          exact a2
        · exact Nat.le_trans (List.length_filter_le _ _) P.l1
  · exact h.elim

theorem pure_People_name_of (vs : List V) (H : Hp) (Q : VK) (E : XK) (h : sp_People_name_of K vs H Q E) : t_People_name_of K { nx := fun _ H' => Q .non H', rt := Q } (start N_People_name_of vs) H := by
  unfold sp_People_name_of at h
  split at h
  · rename_i p n
    obtain ⟨d1, d2, S, P, k⟩ := h
    obtain ⟨dx, hp⟩ := P.ob
    refine ⟨_, rfl, p, dx, _, _, rfl, hp, fP_number, d2, rfl, .inl ⟨_, .inl P.h2⟩, _, rfl, _, DGet.k (k := Sum.inl n) P.h2, ?_⟩
    rw [nuD_val]
    exact k
  · exact h.elim

theorem pure_People_numbers (vs : List V) (H : Hp) (Q : VK) (E : XK) (h : sp_People_numbers K vs H Q E) : t_People_numbers K { nx := fun _ H' => Q .non H', rt := Q } (start N_People_numbers vs) H := by
  unfold sp_People_numbers at h
  split at h
  · rename_i p
    obtain ⟨d1, d2, S, P, l, k⟩ := h
    obtain ⟨dx, hp⟩ := P.ob
    refine ⟨_, rfl, p, dx, _, _, rfl, hp, fP_number, d2, _, rfl, .inl P.h2, fun q hq => ?_⟩
    refine ⟨q, d2, _, S.nu.map (·.1), rfl, upd_same, .inl (by rw [upd_ne (ne_of_none P.h2 hq)]; exact P.h2), ?_, by rw [List.length_map]; exact l, fun ys a py sy ha => ?_⟩
    · unfold nuD
      rw [List.map_map, List.map_map]
      rfl
    · have ha0 : H a = none := (same_new hq).free ha
      exact k ys _ a py sy ha0 (U.Same.new (same_new hq) ha) upd_same
  · exact h.elim

theorem pure_People___init__ (vs : List V) (H : Hp) (Q : VK) (E : XK) (h : sp_People___init__ K vs H Q E) : t_People___init__ K { nx := fun _ H' => Q .non H', rt := Q } (start N_People___init__ vs) H := by
  unfold sp_People___init__ at h
  split at h
  · rename_i p
    obtain ⟨dx, hp, k⟩ := h
    intro d1 n1
    have np1 : p ≠ d1 := ne_of_none hp n1
    refine ⟨_, rfl, p, dx, _, rfl, by rw [upd_ne np1]; exact hp, (by show 0 < 1000; decide), ?_⟩
    intro d2 n2
    have nd : d1 ≠ d2 := fun e => by
      rw [← e, upd_ne np1.symm, upd_same] at n2
      cases n2
    have np2 : p ≠ d2 := fun e => by
      rw [← e, upd_same] at n2
      cases n2
    refine ⟨_, rfl, p, dx, _, rfl, by rw [upd_ne np2, upd_same], (by show 1 < 1000; decide), _, rfl, p, dx, _, rfl, upd_same, (by show 2 < 1000; decide), ?_⟩
    refine k d1 d2 _ ⟨⟨dx, by rw [upd_same]; rfl⟩, ?_, ?_, nd, Nat.zero_le _, Nat.zero_le _, fun q hq => by cases hq⟩ n1 ?_ ?_
    · rw [upd_ne np1.symm, upd_ne np1.symm, upd_ne nd, upd_ne np1.symm, upd_same]
      rfl
    · rw [upd_ne np2.symm, upd_ne np2.symm, upd_same]
      rfl
    · rw [upd_ne np2.symm, upd_ne nd.symm] at n2
      exact n2
    · have n20 : H d2 = none := by
        rw [upd_ne np2.symm, upd_ne nd.symm] at n2
        exact n2
      exact ((((Keep.refl.new n1).put (by simp)).new n20).put (by simp)).put (by simp)
  · exact h.elim
end G

set_option Elab.async false
set_option linter.all false
set_option maxRecDepth 100000
set_option maxHeartbeats 4000000
/-! Promises: kinds. -/
namespace G
open PySem PySem.Spec PyProof.Rows L2 U
def wholeD (d : PyData) (lo hi : Int) : Bool := match d with
  | .int n => decide (lo ≤ n) && decide (n ≤ hi)
  | _ => false
/-- a term of two parts -/
def term2 : PyData → Bool
  | .tuple [.str s, x] => if s = "days" then wholeD x 1 100000 else (decide (s = "after") && wholeD x 0 100000)
  | _ => false
def isTermD (d : PyData) : Bool := PyData.eqv d (.tuple [.str "ever"]) || term2 d
def sp_is_whole (K : PySem.W.Frag) : Sp := fun vs H Q _ => match vs with
  | [v, .int lo, .int hi] => ∃ d, Dp K H v d ∧ Q (.bl (wholeD d lo hi)) H
  | _ => False
def sp_is_term (K : PySem.W.Frag) : Sp := fun vs H Q _ => match vs with
  | [v] => ∃ d, Dt K H v d ∧ ∀ H', Same H H' → Q (.bl (isTermD d)) H'
  | _ => False
def fKind (n t l : V) : List (Str × V) := [("name", n), ("term", t), ("least", l)]
def KindAt (K : PySem.W.Frag) (H : Hp) (a : Addr) (n t l : V) : Prop := ∃ dx, H a = some (.ins (He.ga K "Kind") dx (fKind n t l))
def goodK (vn : V) (dt dl : PyData) : Bool := isNm vn && (isTermD dt && wholeD dl 0 1000)
def sp_Kind___init__ (K : PySem.W.Frag) : Sp := fun vs H Q E => match vs with
  | [.ref p, vn, vt, vl] => ∃ dx dt dl, H p = some (.ins (He.ga K "Kind") dx []) ∧ Kn K H vn ∧ Dt K H vt dt ∧ Dt K H vl dl ∧ (goodK vn dt dl = true → ∀ H', KindAt K H' p vn vt vl → Keep [p] H H' → Q .non H') ∧
    (goodK vn dt dl = false → ∀ H', Same H H' → E (.ref (He.ga K "BadKind")) none H')
  | _ => False
end G

set_option Elab.async false
set_option linter.all false
set_option maxRecDepth 100000
set_option maxHeartbeats 4000000

/-! Readings, printed by gen.py. -/
namespace G
open PySem PySem.Spec PyProof.Rows L2 U
abbrev N_is_whole : List Str := ["thing", "least", "most"]
def t_is_whole (K : PySem.W.Frag) : TS :=
  (tSeq (tIfS (tOr (tNot (tB (tCB (rIsi K) (tCons (tVar 0) (tCons (tC (.ty "int")) tNil))))) (tB (tCB (rIsi K) (tCons (tVar 0) (tCons (tC (.ty "bool")) tNil))))) (tRet (tC (.bl false))) tNext)
  (tRet (tChain rLeI rLeI (tVar 1) (tVar 0) (tVar 2))))
abbrev N_is_term : List Str := ["thing"]
def t_is_term (K : PySem.W.Frag) : TS :=
  (tSeq (tIfS (tTest (tOp (rEqD K) (tVar 0) (tTup (tCons (tC (.str "ever")) tNil)))) (tRet (tC (.bl true))) tNext)
  (tSeq (tIfS (tOr (tNot (tB (tCB (rIsi K) (tCons (tVar 0) (tCons (tC (.ty "tuple")) tNil))))) (tOr (tTest (tOp rNe (tCB (rLenSeq K) (tCons (tVar 0) tNil)) (tC (.int 2)))) (tNot (tB (tCB (rIsi K) (tCons (tOp (rIxT K) (tVar 0) (tC (.int 0))) (tCons (tC (.ty "str")) tNil))))))) (tRet (tC (.bl false))) tNext)
  (tSeq (tIfS (tTest (tOp rEq (tOp (rIxT K) (tVar 0) (tC (.int 0))) (tC (.str "days")))) (tRet (tCl (sp_is_whole K) [] ES0 (tCons (tOp (rIxT K) (tVar 0) (tC (.int 1))) (tCons (tC (.int 1)) (tCons (tC (.int 100000)) tNil))))) tNext)
  (tRet (tAndV (tOp rEq (tOp (rIxT K) (tVar 0) (tC (.int 0))) (tC (.str "after"))) (tCl (sp_is_whole K) [] ES0 (tCons (tOp (rIxT K) (tVar 0) (tC (.int 1))) (tCons (tC (.int 0)) (tCons (tC (.int 100000)) tNil)))))))))
abbrev N_Kind___init__ : List Str := ["self", "name", "term", "least"]
def t_Kind___init__ (K : PySem.W.Frag) (W : WX) : TS :=
  (tSeq (tIfS (tOr (tNot (tB (tCl (sp_is_name K) [] ES0 (tCons (tVar 1) tNil)))) (tOr (tNot (tB (tCl (sp_is_term K) [] ES0 (tCons (tVar 2) tNil)))) (tNot (tB (tCl (sp_is_whole K) [] ES0 (tCons (tVar 3) (tCons (tC (.int 0)) (tCons (tC (.int 1000)) tNil)))))))) (tRs (He.ga K "BadKind") W) tNext)
  (tSeq (sFd (He.ga K "Kind") (tVar 0) (tVar 1) "name")
  (tSeq (sFd (He.ga K "Kind") (tVar 0) (tVar 2) "term")
  (sFd (He.ga K "Kind") (tVar 0) (tVar 3) "least"))))
end G

set_option Elab.async false
set_option linter.all false
set_option maxRecDepth 100000
set_option maxHeartbeats 4000000
namespace G
open PySem PySem.Spec PyProof.Rows L2 U
variable {K : PySem.W.Frag}
theorem pure_is_whole (vs : List V) (H : Hp) (Q : VK) (E : XK) (h : sp_is_whole K vs H Q E) : t_is_whole K { nx := fun _ H' => Q .non H', rt := Q } (start N_is_whole vs) H := by
  unfold sp_is_whole at h
  split at h
  · rename_i v lo hi
    obtain ⟨d, dp, k⟩ := h
    refine ⟨_, rfl, v, _, _, _, _, rfl, .ty "int", dp.ty, kit_ty (kitD_int dp.nd), _, rfl, ?_⟩
    cases hi1 : isIntD d
    · refine iteT ?_
      have e : wholeD d lo hi = false := by cases d <;> first | rfl | cases hi1
      rw [e] at k
      exact k
    · refine iteF ?_
      refine ⟨_, rfl, v, _, _, _, _, rfl, .ty "bool", dp.ty, kit_ty (kitD_bool dp.nd), _, rfl, ?_⟩
      cases hb : isBoolD d
      · obtain ⟨n, rfl⟩ : ∃ n, d = .int n := by cases d <;> first | exact ⟨_, rfl⟩ | (cases hi1; done) | (cases hb; done)
        cases dp
        refine iteF ?_
        refine ⟨_, rfl, _, rfl, _, _, rfl, rfl, _, rfl, ?_⟩
        have k : Q (.bl (decide (lo ≤ n) && decide (n ≤ hi))) H := k
        by_cases h1 : lo ≤ n
        · rw [decide_eq_true h1] at k ⊢
          exact ⟨_, rfl, _, _, rfl, rfl, k⟩
        · rw [decide_eq_false h1] at k ⊢
          exact k
      · refine iteT ?_
        have e : wholeD d lo hi = false := by cases d <;> first | rfl | cases hb
        rw [e] at k
        exact k
  · exact h.elim
theorem ever_sh : SeqAt.shaped (.tuple [.str "ever"]) = true := by decide +kernel
theorem at2_0 {α : Type} (x y : α) : atI [x, y] 0 = some x := rfl
theorem at2_1 {α : Type} (x y : α) : atI [x, y] 1 = some y := rfl
theorem term2_no {ds : List PyData} (h : ds.length ≠ 2) : term2 (.tuple ds) = false := by
  match ds, h with
  | [], _ => rfl
  | [x], _ => cases x <;> rfl
  | [_, _], h => exact absurd rfl h
  | x :: _ :: _ :: _, _ => cases x <;> rfl
theorem dpAll2 {H : Hp} {xs : List V} {a b : PyData} (h : DpAll K H xs [a, b]) : ∃ u w, xs = [u, w] ∧ Dp K H u a ∧ Dp K H w b := by
  cases h with
  | cons h1 h2 =>
    cases h2 with
    | cons h3 h4 =>
      cases h4
      exact ⟨_, _, rfl, h1, h3⟩
theorem dpAll_len {H : Hp} : ∀ {xs : List V} {ds : List PyData}, DpAll K H xs ds → xs.length = ds.length
  | _, _, .nil => rfl
  | _, _, .cons _ h => congrArg (· + 1) (dpAll_len h)

theorem pure_is_term (vs : List V) (H : Hp) (Q : VK) (E : XK) (h : sp_is_term K vs H Q E) : t_is_term K { nx := fun _ H' => Q .non H', rt := Q } (start N_is_term vs) H := by
  unfold sp_is_term at h
  split at h
  · rename_i v
    obtain ⟨d, dt, k⟩ := h
    refine ⟨_, rfl, (by show 1 ≤ sizeLine; decide), fun t ht => ?_⟩
    have s1 : Same H (upd H t (.tup [V.str "ever"])) := same_new ht
    have k1 := k _ s1
    have dt1 := dt.same s1
    refine ⟨d, .tuple [.str "ever"], dt1.dp, .tup (.inl (.inl upd_same)) (.cons (.str _) .nil), dt.sh, ever_sh, _, rfl, ?_⟩
    unfold isTermD at k1
    cases he : PyData.eqv d (.tuple [.str "ever"])
    · rw [he, Bool.false_or] at k1
      refine iteF ?_
      refine ⟨_, rfl, v, _, _, _, _, rfl, .ty "tuple", dt1.dp.ty, kit_ty (kitD_tup dt.dp.nd), _, rfl, ?_⟩
      cases hT : isTupD d
      · refine iteT (iteT ?_)
        have e : term2 d = false := by cases d <;> first | rfl | cases hT
        rw [e] at k1
        exact k1
      · refine iteF ?_
        obtain ⟨ds, rfl⟩ : ∃ ds, d = .tuple ds := by cases d <;> first | exact ⟨_, rfl⟩ | cases hT
        have dp1 := dt1.dp
        cases dp1 with
        | tup hs ha =>
          rename_i a xs
          have hl := dpAll_len ha
          refine ⟨_, rfl, a, xs, rfl, .inr hs, rfl, _, rfl, ?_⟩
          by_cases h2 : ds.length = 2
          · have e2 : (!decide (V.int (xs.length : Int) = V.int 2)) = false := by
              rw [hl, h2]
              rfl
            rw [e2]
            refine iteF ?_
            match ds, h2 with
            | [x, y], _ =>
              obtain ⟨u, w, rfl, hu, hw⟩ := dpAll2 ha
              refine ⟨_, rfl, a, _, _, _, rfl, rfl, hs, at2_0 u w, _, _, _, _, _, rfl, .ty "str", hu.ty, kit_ty (kitD_str hu.nd), _, rfl, ?_⟩
              cases hS : isStrD x
              · refine iteT ?_
                have e : term2 (.tuple [x, y]) = false := by cases x <;> first | rfl | cases hS
                rw [e] at k1
                exact k1
              · refine iteF ?_
                obtain ⟨s, rfl⟩ : ∃ s, x = .str s := by cases x <;> first | exact ⟨_, rfl⟩ | cases hS
                cases hu
                refine ⟨_, rfl, a, _, _, _, rfl, rfl, hs, at2_0 _ w, rfl, _, rfl, ?_⟩
                have k1 : Q (.bl (if s = "days" then wholeD y 1 100000 else (decide (s = "after") && wholeD y 0 100000))) (upd H t (.tup [V.str "ever"])) := k1
                by_cases h3 : s = "days"
                · subst h3
                  rw [if_pos rfl] at k1
                  refine ite2 (fun _ => ?_) (fun n => absurd (decide_eq_true rfl) n)
                  exact ⟨_, rfl, a, _, _, _, rfl, rfl, hs, at2_1 _ w, y, hw, k1⟩
                · rw [if_neg h3] at k1
                  refine ite2 (fun n => absurd (V.str.inj (of_decide_eq_true n)) h3) (fun _ => ?_)
                  refine ⟨_, rfl, a, _, _, _, rfl, rfl, hs, at2_0 _ w, rfl, _, rfl, ?_⟩
                  by_cases h4 : s = "after"
                  · subst h4
                    refine ite2 (fun _ => ?_) (fun n => absurd (decide_eq_true rfl) n)
                    exact ⟨_, rfl, a, _, _, _, rfl, rfl, hs, at2_1 _ w, y, hw, k1⟩
                  · rw [decide_eq_false h4] at k1
                    exact ite2 (fun n => absurd (V.str.inj (of_decide_eq_true n)) h4) (fun _ => k1)
          · have e2 : (!decide (V.int (xs.length : Int) = V.int 2)) = true := by
              rw [hl, decide_eq_false (fun e => h2 (by have := V.int.inj e; omega))]
              rfl
            rw [e2]
            refine iteT ?_
            rw [term2_no h2] at k1
            exact k1
    · rw [he, Bool.true_or] at k1
      exact iteT k1
  · exact h.elim

theorem fK_name {n t l : V} : List.lookup ("name" : Str) (fKind n t l) = some n := rfl
theorem fK_term {n t l : V} : List.lookup ("term" : Str) (fKind n t l) = some t := rfl
theorem fK_least {n t l : V} : List.lookup ("least" : Str) (fKind n t l) = some l := rfl
theorem pure_Kind___init__ (vs : List V) (H : Hp) (Q : VK) (E : XK) (h : sp_Kind___init__ K vs H Q E) : t_Kind___init__ K (fun cls d _ H => E cls d H) { nx := fun _ H' => Q .non H', rt := Q } (start N_Kind___init__ vs) H := by
  unfold sp_Kind___init__ at h
  split at h
  · rename_i p vn vt vl
    obtain ⟨dx, dt, dl, hp, kn, ht, hl, k1, k2⟩ := h
    unfold goodK at k1 k2
    refine ⟨_, rfl, kn, fun H1 s1 => ⟨_, rfl, ?_⟩⟩
    cases hn : isNm vn
    · rw [hn] at k2
      exact iteT (iteT (k2 rfl H1 s1))
    · rw [hn, Bool.true_and] at k1 k2
      refine iteF ?_
      refine ⟨_, rfl, dt, ht.same s1, fun H2 s2 => ⟨_, rfl, ?_⟩⟩
      have s12 := s1.trans s2
      cases hT : isTermD dt
      · rw [hT] at k2
        exact iteT (iteT (k2 rfl H2 s12))
      · rw [hT, Bool.true_and] at k1 k2
        refine iteF ?_
        refine ⟨_, rfl, dl, (hl.same s12).dp, _, rfl, ?_⟩
        cases hW : wholeD dl 0 1000
        · rw [hW] at k2
          exact iteT (k2 rfl H2 s12)
        · rw [hW] at k1
          refine iteF ?_
          refine ⟨_, rfl, _, rfl, p, dx, _, rfl, s12 _ _ hp, (by show 0 < 1000; decide), ?_⟩
          refine ⟨_, rfl, _, rfl, p, dx, _, rfl, upd_same, (by show 1 < 1000; decide), ?_⟩
          refine ⟨_, rfl, _, rfl, p, dx, _, rfl, upd_same, (by show 2 < 1000; decide), ?_⟩
          exact k1 rfl _ ⟨dx, by rw [upd_same]; rfl⟩ ((((Keep.same s12).put (by simp)).put (by simp)).put (by simp))
  · exact h.elim
end G

set_option Elab.async false
set_option linter.all false
set_option maxRecDepth 100000
set_option maxHeartbeats 4000000
/-! Promises: kinds read. -/
namespace G
open PySem PySem.Spec PyProof.Rows L2 U
inductive Tm where
  | ever
  | days (n : Int)
  | after (n : Int)
def tmV : Tm → List V
  | .ever => [.str "ever"]
  | .days n => [.str "days", .int n]
  | .after n => [.str "after", .int n]
def tmD : Tm → PyData
  | .ever => .tuple [.str "ever"]
  | .days n => .tuple [.str "days", .int n]
  | .after n => .tuple [.str "after", .int n]
def tmOk : Tm → Bool
  | .ever => true
  | .days n => decide (1 ≤ n) && decide (n ≤ 100000)
  | .after n => decide (0 ≤ n) && decide (n ≤ 100000)
def TmAt (K : PySem.W.Frag) (H : Hp) (v : V) (t : Tm) : Prop := ∃ a, v = .ref a ∧ SqT K H a (tmV t)
theorem TmAt.same {K : PySem.W.Frag} {H H' : Hp} {v : V} {t : Tm} (s : Same H H') (h : TmAt K H v t) : TmAt K H' v t := by
  obtain ⟨a, e, h⟩ := h
  exact ⟨a, e, Same.seqT s h⟩
theorem tm_sh (t : Tm) : SeqAt.shaped (tmD t) = true := by
  cases t with
  | ever => decide +kernel
  | days n => exact (Dd.tuple (n := 0) fun d hd => by
      simp only [List.mem_cons, List.not_mem_nil, or_false] at hd
      rcases hd with rfl | rfl
      · exact Dd.str (lit_ok (by decide +kernel))
      · exact Dd.int n).sh (by decide)
  | after n => exact (Dd.tuple (n := 0) fun d hd => by
      simp only [List.mem_cons, List.not_mem_nil, or_false] at hd
      rcases hd with rfl | rfl
      · exact Dd.str (lit_ok (by decide +kernel))
      · exact Dd.int n).sh (by decide)
theorem TmAt.dt {K : PySem.W.Frag} {H : Hp} {v : V} {t : Tm} (h : TmAt K H v t) : Dt K H v (tmD t) := by
  refine ⟨?_, tm_sh t⟩
  obtain ⟨a, rfl, h⟩ := h
  cases t with
  | ever => exact .tup h (.cons (.str _) .nil)
  | days n => exact .tup h (.cons (.str _) (.cons (.int n) .nil))
  | after n => exact .tup h (.cons (.str _) (.cons (.int n) .nil))
theorem isTermD_tm (t : Tm) : isTermD (tmD t) = tmOk t := by
  cases t with
  | ever =>
    show (PyData.eqv (.tuple [.str "ever"]) (.tuple [.str "ever"]) || term2 (.tuple [.str "ever"])) = true
    rw [SeqAt.eqv_refl _ (by decide +kernel)]
    rfl
  | days n =>
    show (PyData.eqv (.tuple [.str "days", .int n]) (.tuple [.str "ever"]) || (if ("days" : Str) = "days" then wholeD (.int n) 1 100000 else (decide (("days" : Str) = "after") && wholeD (.int n) 0 100000))) = _
    rw [if_pos rfl]
    have e : PyData.eqv (.tuple [.str "days", .int n]) (.tuple [.str "ever"]) = false := by simp [PyData.eqv, PyData.eqvAll]
    rw [e]
    rfl
  | after n =>
    show (PyData.eqv (.tuple [.str "after", .int n]) (.tuple [.str "ever"]) || (if ("after" : Str) = "days" then wholeD (.int n) 1 100000 else (decide (("after" : Str) = "after") && wholeD (.int n) 0 100000))) = _
    rw [if_neg (by decide +kernel), decide_eq_true rfl]
    have e : PyData.eqv (.tuple [.str "after", .int n]) (.tuple [.str "ever"]) = false := by simp [PyData.eqv, PyData.eqvAll]
    rw [e]
    rfl
abbrev figs : Str := "0123456789"
def figOk (z : Str) : Bool := decide (1 ≤ z.length) && decide (z.length ≤ 6) && z.cps.toList.all fun c => decide (c ∈ figs.cps.toList)
def readFig (z : Str) : Option Int :=
  if figOk z = true then (if atI z.cps.toList 0 = some 48 ∧ z ≠ "0" then none else some ((NumText.digitsVal z.cps.toList : Nat) : Int)) else none
def readTerm (z : Str) : Option Tm :=
  if z = "ever" then some .ever else
  match readFig (Txt.partition z " ").1 with
  | none => none
  | some n => if (Txt.partition z " ").2.2 = "days" then some (.days n) else if (Txt.partition z " ").2.2 = "days after" then some (.after n) else none
def readLeast (z : Str) : Option Int :=
  if z = "" then some 0 else
  if Txt.startswith z ", " = true then (if Txt.endswith z " people" = true then (if readFig (cutS z (some 2) (some (-7))) = some 0 then none else readFig (cutS z (some 2) (some (-7)))) else none) else none
def rTerm (z : Str) : Option Tm := readTerm (Txt.partition (Txt.partition z ": ").2.2 ",").1
def rLeast (z : Str) : Option Int := readLeast ((Txt.partition (Txt.partition z ": ").2.2 ",").2.1 ++ (Txt.partition (Txt.partition z ": ").2.2 ",").2.2)
def okK (nm : Str) : Option Tm → Option Int → Option (Str × Tm × Int)
  | some t, some l => if (tmOk t && (decide (0 ≤ l) && decide (l ≤ 1000))) = true then some (nm, t, l) else none
  | _, _ => none
def readKind (z : Str) : Option (Str × Tm × Int) := if isNmS (Txt.partition z ": ").1 = true then okK (Txt.partition z ": ").1 (rTerm z) (rLeast z) else none
def sp_read_figures (K : PySem.W.Frag) : Sp := fun vs H Q _ => match vs with
  | [.str z] => TxOk z ∧ ∀ H', Same H H' → Q (optV (readFig z)) H'
  | _ => False
/-- a term or none -/
def OTm (K : PySem.W.Frag) (H : Hp) (v : V) : Option Tm → Prop
  | none => v = .non
  | some t => TmAt K H v t
def sp_read_term (K : PySem.W.Frag) : Sp := fun vs H Q _ => match vs with
  | [.str z] => TxOk z ∧ ∀ v H', OTm K H' v (readTerm z) → Same H H' → Q v H'
  | _ => False
def sp_read_least (K : PySem.W.Frag) : Sp := fun vs H Q _ => match vs with
  | [.str z] => TxOk z ∧ ∀ H', Same H H' → Q (optV (readLeast z)) H'
  | _ => False
def sp_read_kind (K : PySem.W.Frag) : Sp := fun vs H Q E => match vs with
  | [v] => Kn K H v ∧ (∀ z x t l, v = .str z → readKind z = some (x, t, l) → ∀ p vt H', KindAt K H' p (.str x) vt (.int l) → TmAt K H' vt t → Same H H' → Q (.ref p) H') ∧
    ((∀ z, v = .str z → readKind z = none) → ∀ H', Same H H' → E (.ref (He.ga K "NoText")) none H')
  | _ => False
end G

set_option Elab.async false
set_option linter.all false
set_option maxRecDepth 100000
set_option maxHeartbeats 4000000

/-! Readings, printed by gen.py. -/
namespace G
open PySem PySem.Spec PyProof.Rows L2 U
abbrev N_read_figures : List Str := ["text", "sign"]
def t_read_figures (K : PySem.W.Frag) : TS :=
  (tSeq (tIfS (tOr (tTest (tOp rEq (tVar 0) (tC (.str "")))) (tOr (tTest (tOp rGtI (tCB rLenStr (tCons (tVar 0) tNil)) (tC (.int 6)))) (tNot (tB (tCB (rAll K) (tCons (tLc (iStr (tVar 0)) (gName 1) tYes (tOp rInSg (tVar 1) (tC (.str "0123456789"))) [1]) tNil)))))) (tRet (tC .non)) tNext)
  (tSeq (tIfS (tAnd (tTest (tOp rEq (tOp rIxS (tVar 0) (tC (.int 0))) (tC (.str "0")))) (tTest (tOp rNe (tVar 0) (tC (.str "0"))))) (tRet (tC .non)) tNext)
  (tRet (tCB rIntStr (tCons (tVar 0) tNil)))))
abbrev N_read_least : List Str := ["text", "number"]
def t_read_least (K : PySem.W.Frag) : TS :=
  (tSeq (tIfS (tTest (tOp rEq (tVar 0) (tC (.str "")))) (tRet (tC (.int 0))) tNext)
  (tSeq (tIfS (tOr (tNot (tB (tM1 mStarts (tVar 0) (tC (.str ", "))))) (tNot (tB (tM1 mEnds (tVar 0) (tC (.str " people")))))) (tRet (tC .non)) tNext)
  (tSeq (tAsg (tCl (sp_read_figures K) [] ES0 (tCons (tSl rSlS (tVar 0) (tPart (tC (.int 2))) (tPart (tUn (rU fun i => .int (-i)) (tC (.int 7))))) tNil)) (gName 1))
  (tSeq (tIfS (tTest (tOp rEq (tVar 1) (tC (.int 0)))) (tRet (tC .non)) tNext)
  (tRet (tVar 1))))))
abbrev N_read_term : List Str := ["text", "figures", "blank", "words", "number"]
def t_read_term (K : PySem.W.Frag) : TS :=
  (tSeq (tIfS (tTest (tOp rEq (tVar 0) (tC (.str "ever")))) (tRet (tTup (tCons (tC (.str "ever")) tNil))) tNext)
  (tSeq (tAsg (tM1 mPartition (tVar 0) (tC (.str " "))) (gTup K 3 (gCons (gName 1) (gCons (gName 2) (gCons (gName 3) gNil)))))
  (tSeq (tAsg (tCl (sp_read_figures K) [] ES0 (tCons (tVar 1) tNil)) (gName 4))
  (tSeq (tIfS (tOr (tTest (tOp rIsNn (tVar 4) (tC .non))) (tTest (tOp (rIn K true) (tVar 3) (tLst (tCons (tC (.str "days")) (tCons (tC (.str "days after")) tNil)))))) (tRet (tC .non)) tNext)
  (tRet (tTup (tCons (tDGet (tDisp [((tC (.str "days")), (tC (.str "days"))), ((tC (.str "days after")), (tC (.str "after")))]) (tVar 3)) (tCons (tVar 4) tNil))))))))
abbrev N_read_kind : List Str := ["text", "found", "name", "colon", "rest", "words", "comma", "more", "term", "least"]
def t_read_kind (K : PySem.W.Frag) (W : WX) : TS :=
  (tSeq (tAsg (tC .non) (gName 1))
  (tSeq (tIfS (tB (tCB (rIsi K) (tCons (tVar 0) (tCons (tC (.ty "str")) tNil)))) (tSeq (tAsg (tM1 mPartition (tVar 0) (tC (.str ": "))) (gTup K 3 (gCons (gName 2) (gCons (gName 3) (gCons (gName 4) gNil)))))
  (tSeq (tAsg (tM1 mPartition (tVar 4) (tC (.str ","))) (gTup K 3 (gCons (gName 5) (gCons (gName 6) (gCons (gName 7) gNil)))))
  (tSeq (tAsg (tCl (sp_read_term K) [] ES0 (tCons (tVar 5) tNil)) (gName 8))
  (tSeq (tAsg (tCl (sp_read_least K) [] ES0 (tCons (tOp rAddS (tVar 6) (tVar 7)) tNil)) (gName 9))
  (tIfS (tAnd (tB (tCl (sp_is_name K) [] ES0 (tCons (tVar 2) tNil))) (tAnd (tB (tCl (sp_is_term K) [] ES0 (tCons (tVar 8) tNil))) (tB (tCl (sp_is_whole K) [] ES0 (tCons (tVar 9) (tCons (tC (.int 0)) (tCons (tC (.int 1000)) tNil))))))) (tAsg (tMk (He.ga K "Kind") (sp_Kind___init__ K) [] (WE W) (tCons (tVar 2) (tCons (tVar 8) (tCons (tVar 9) tNil)))) (gName 1)) tNext))))) tNext)
  (tSeq (tIfS (tTest (tOp rIsNn (tVar 1) (tC .non))) (tRs (He.ga K "NoText") W) tNext)
  (tRet (tVar 1)))))
end G

set_option Elab.async false
set_option linter.all false
set_option maxRecDepth 100000
set_option maxHeartbeats 4000000
namespace G
open PySem PySem.Spec PyProof.Rows L2 U
variable {K : PySem.W.Frag}
theorem figs_digit : ∀ c ∈ figs.cps.toList, 48 ≤ c ∧ c ≤ 57 := by decide +kernel
theorem figOk_digits {z : Str} (h : figOk z = true) : NumText.AllDigits z.cps.toList ∧ 1 ≤ z.length ∧ z.length ≤ 6 := by
  unfold figOk at h
  obtain ⟨h1, h2⟩ := Bool.and_eq_true_iff.mp h
  obtain ⟨h3, h4⟩ := Bool.and_eq_true_iff.mp h1
  refine ⟨fun c hc => figs_digit c (of_decide_eq_true (List.all_eq_true.mp h2 c hc)), of_decide_eq_true h3, of_decide_eq_true h4⟩
theorem fig_int {z : Str} (h : figOk z = true) : intText? z = some ((NumText.digitsVal z.cps.toList : Nat) : Int) := by
  obtain ⟨h1, h2, h3⟩ := figOk_digits h
  refine intText_digits h1 (fun e => ?_) (by omega)
  have : z.length = z.cps.toList.length := TL.len_tl z
  rw [e] at this
  simp at this
  omega
theorem pure_read_figures (vs : List V) (H : Hp) (Q : VK) (E : XK) (h : sp_read_figures K vs H Q E) : t_read_figures K { nx := fun _ H' => Q .non H', rt := Q } (start N_read_figures vs) H := by
  unfold sp_read_figures at h
  split at h
  · rename_i z
    obtain ⟨tx, k⟩ := h
    refine ⟨_, rfl, rfl, _, rfl, ?_⟩
    by_cases h0 : z = ""
    · subst h0
      refine iteT (iteT ?_)
      exact k H (Same.refl H)
    · have e0 : decide (V.str z = V.str "") = false := decide_eq_false (fun e => h0 (V.str.inj e))
      rw [e0]
      refine iteF ?_
      refine ⟨_, rfl, z, rfl, Nat.le_trans tx.len (by decide), _, _, rfl, rfl, _, rfl, ?_⟩
      have hz : z.length ≠ 0 := fun e => h0 (str_eq_nil.mpr e)
      by_cases h8 : (6 : Int) < z.length
      · refine ite2 (fun _ => ?_) (fun n => absurd (decide_eq_true h8) n)
        have e1 : readFig z = none := by
          unfold readFig figOk
          rw [decide_eq_false (show ¬ z.length ≤ 6 by omega)]
          simp
        have e2 := k H (Same.refl H)
        rw [e1] at e2
        exact e2
      · refine ite2 (fun n => absurd (of_decide_eq_true n) h8) (fun _ => ?_)
        refine ⟨_, rfl, z, rfl, fun D hD => ?_⟩
        refine lcs_m (fun c => V.bl (decide (c ∈ figs.cps.toList))) (show z.length ≤ 1000000 from Nat.le_trans tx.len (by decide)) (fun c acc R _ r => ?_) ?_
        · exact ⟨_, rfl, c, _, rfl, rfl, r⟩
        · refine ⟨D, z.cps.toList.map (fun c => decide (c ∈ figs.cps.toList)), rfl, ?_, ?_⟩
          · refine SqL.of ?_
            rw [upd_same, List.map_map]
            rfl
          · have k2 := k (upd H D (.lst (List.map (fun c => V.bl (decide (c ∈ figs.cps.toList))) z.cps.toList))) (same_new hD)
            have e1 : (z.cps.toList.map (fun c => decide (c ∈ figs.cps.toList))).all id = figOk z := by
              unfold figOk
              rw [decide_eq_true (show 1 ≤ z.length by omega), decide_eq_true (show z.length ≤ 6 by omega)]
              simp [List.all_map, Function.comp_def]
            rw [e1]
            refine ⟨_, rfl, ?_⟩
            cases hf : figOk z
            · refine iteT ?_
              have e2 : readFig z = none := by
                unfold readFig
                rw [hf]
                rfl
              rw [e2] at k2
              exact k2
            · refine iteF ?_
              have hzl : 0 < z.cps.toList.length := by
                have := TL.len_tl z
                unfold TL.tl at this
                omega
              have hat : atI z.cps.toList 0 = some z.cps.toList[0] := atI_nat (j := 0) (List.getElem?_eq_getElem hzl)
              refine ⟨_, rfl, z, _, _, rfl, rfl, Nat.le_trans tx.len (by decide), hat, rfl, _, rfl, ?_⟩
              have fin : (¬ (atI z.cps.toList 0 = some 48 ∧ z ≠ "0")) → (tRet (tCB rIntStr (tCons (tVar 0) tNil))) { nx := fun _ H' => Q .non H', rt := Q } (start N_read_figures [V.str z]) (upd H D (.lst (List.map (fun c => V.bl (decide (c ∈ figs.cps.toList))) z.cps.toList))) := fun hn => by
                refine ⟨_, rfl, z, _, rfl, fig_int hf, by have := (figOk_digits hf).2.2; omega, ?_⟩
                have e2 : readFig z = some ((NumText.digitsVal z.cps.toList : Nat) : Int) := by
                  unfold readFig
                  rw [if_pos hf, if_neg hn]
                rw [e2] at k2
                exact k2
              by_cases h48 : z.cps.toList[0] = 48
              · have e3 : decide (V.str ⟨#[z.cps.toList[0]]⟩ = V.str "0") = true := by
                  rw [h48]
                  decide +kernel
                rw [e3]
                refine iteT ⟨_, rfl, rfl, _, rfl, ?_⟩
                by_cases hz0 : z = "0"
                · have e4 : (!decide (V.str z = V.str "0")) = false := by rw [hz0]; rfl
                  rw [e4]
                  exact iteF (fin fun q => q.2 hz0)
                · have e4 : (!decide (V.str z = V.str "0")) = true := by rw [decide_eq_false fun e => hz0 (V.str.inj e)]; rfl
                  rw [e4]
                  refine iteT ?_
                  have e2 : readFig z = none := by
                    unfold readFig
                    rw [if_pos hf, if_pos ⟨by rw [hat, h48], hz0⟩]
                  rw [e2] at k2
                  exact k2
              · have e3 : decide (V.str ⟨#[z.cps.toList[0]]⟩ = V.str "0") = false := decide_eq_false fun e => h48 (by
                  have e5 := congrArg (fun s : Str => s.cps.toList) (V.str.inj e)
                  have e6 : [z.cps.toList[0]] = [48] := e5
                  exact (List.cons.inj e6).1)
                rw [e3]
                refine iteF (fin fun q => h48 ?_)
                rw [hat] at q
                exact Option.some.inj q.1
  · exact h.elim
theorem optV_none {o : Option Int} : (optV o = .non) ↔ o = none := by cases o <;> simp [optV]
theorem pure_read_least (vs : List V) (H : Hp) (Q : VK) (E : XK) (h : sp_read_least K vs H Q E) : t_read_least K { nx := fun _ H' => Q .non H', rt := Q } (start N_read_least vs) H := by
  unfold sp_read_least at h
  split at h
  · rename_i z
    obtain ⟨tx, k⟩ := h
    unfold readLeast at k
    refine ⟨_, rfl, rfl, _, rfl, ?_⟩
    by_cases h0 : z = ""
    · rw [if_pos h0] at k
      subst h0
      exact iteT (k H (Same.refl H))
    · rw [if_neg h0] at k
      rw [decide_eq_false (fun e => h0 (V.str.inj e))]
      refine iteF ⟨_, rfl, ⟨_, rfl⟩, _, _, rfl, rfl, _, rfl, ?_⟩
      cases h1 : Txt.startswith z ", "
      · refine iteT ?_
        rw [h1] at k
        exact k H (Same.refl H)
      rw [if_pos h1] at k
      refine iteF ⟨_, rfl, ⟨_, rfl⟩, _, _, rfl, rfl, _, rfl, ?_⟩
      cases h2 : Txt.endswith z " people"
      · refine iteT ?_
        rw [h2] at k
        exact k H (Same.refl H)
      rw [if_pos h2] at k
      refine iteF ⟨_, rfl, _, rfl, _, rfl, _, rfl, z, rfl, Nat.le_trans tx.len (by decide), tx.cut _ _, fun H1 s1 => ?_⟩
      have k1 := k H1 s1
      refine ⟨_, rfl, (by cases readFig (cutS z (some 2) (some (-7))) <;> rfl), _, rfl, ?_⟩
      by_cases h3 : readFig (cutS z (some 2) (some (-7))) = some 0
      · rw [if_pos h3] at k1
        rw [h3]
        exact iteT k1
      · rw [if_neg h3] at k1
        rw [decide_eq_false (fun e => h3 (by
          cases ho : readFig (cutS z (some 2) (some (-7))) with
          | none => rw [ho] at e; cases e
          | some n => rw [ho] at e; rw [V.int.inj e]))]
        exact iteF ⟨_, rfl, k1⟩
  · exact h.elim
theorem inV_words (w : Str) : inV (V.str w) [V.str "days", V.str "days after"] = (decide (w = "days") || decide (w = "days after")) := by
  show ((("days" : Str) == w) || ((("days after" : Str) == w) || false)) = _
  rw [Bool.or_false, str_beq, str_beq]
theorem pure_read_term (vs : List V) (H : Hp) (Q : VK) (E : XK) (h : sp_read_term K vs H Q E) : t_read_term K { nx := fun _ H' => Q .non H', rt := Q } (start N_read_term vs) H := by
  unfold sp_read_term at h
  split at h
  · rename_i z
    obtain ⟨tx, k⟩ := h
    unfold readTerm at k
    refine ⟨_, rfl, rfl, _, rfl, ?_⟩
    by_cases h0 : z = "ever"
    · rw [if_pos h0] at k
      subst h0
      refine iteT ⟨(by show 1 ≤ sizeLine; decide), fun q hq => ?_⟩
      exact k _ _ ⟨q, rfl, .inl (.inl upd_same)⟩ (same_new hq)
    · rw [if_neg h0] at k
      rw [decide_eq_false (fun e => h0 (V.str.inj e))]
      refine iteF ⟨_, rfl, ⟨_, rfl⟩, _, _, rfl, rfl, rfl, Nat.le_trans tx.len (by decide), fun p hp => ?_⟩
      refine ⟨p, _, rfl, .inl (.inl upd_same), rfl, _, _, rfl, _, _, rfl, _, _, rfl, rfl, ?_⟩
      have s1 := same_new (o := .tup [V.str (Txt.partition z " ").1, V.str (Txt.partition z " ").2.1, V.str (Txt.partition z " ").2.2]) hp
      refine ⟨_, rfl, (partition_ok tx " ").1, fun H2 s2 => ?_⟩
      have s2 := s1.trans s2
      clear s1
      refine ⟨_, rfl, rfl, _, rfl, ?_⟩
      cases hf : readFig (Txt.partition z " ").1 with
      | none =>
        rw [hf] at k
        exact iteT (k _ _ rfl s2)
      | some n =>
        rw [hf] at k
        refine iteF ⟨_, rfl, (by show 2 ≤ sizeLine; decide), fun l hl => ?_⟩
        have s3 := s2.new (o := .lst [V.str "days", V.str "days after"]) hl
        refine ⟨l, _, rfl, .inl (SqL.of upd_same), rfl, rfl, _, rfl, ?_⟩
        show if (if true = true then !inV (V.str (Txt.partition z " ").2.2) [V.str "days", V.str "days after"] else inV (V.str (Txt.partition z " ").2.2) [V.str "days", V.str "days after"]) = true then _ else _
        rw [if_pos rfl, inV_words]
        generalize hw : (Txt.partition z " ").2.2 = w at k ⊢
        replace k : ∀ v H', OTm K H' v (if w = "days" then some (Tm.days n) else if w = "days after" then some (Tm.after n) else none) → Same H H' → Q v H' := k
        have go : ∀ (x : Str) (t : Tm), tmV t = [V.str x, .int n] → valV (mergeK [] [((.inr "days" : Key), V.str "days"), (.inr "days after", V.str "after")]) (.inr w) = some (V.str x) → (∀ v H', OTm K H' v (some t) → Same H H' → Q v H') →
            (tRet (tTup (tCons (tDGet (tDisp [((tC (.str "days")), (tC (.str "days"))), ((tC (.str "days after")), (tC (.str "after")))]) (tVar 3)) (tCons (tVar 4) tNil)))) { nx := fun _ H' => Q .non H', rt := Q } [some (V.str z), some (V.str (Txt.partition z " ").1), some (V.str (Txt.partition z " ").2.1), some (V.str w), some (V.int n)] (upd H2 l (.lst [V.str "days", V.str "days after"])) := fun x t et ev k => by
          intro d hd
          refine ⟨upd_same, [((.inr "days" : Key), V.str "days"), (.inr "days after", V.str "after")], rfl, by decide, ?_⟩
          refine ⟨_, rfl, d, V.str x, rfl, .inl ⟨_, _, .inl upd_same, rfl, ev.symm⟩, _, rfl, (by show 2 ≤ sizeLine; decide), fun q hq => ?_⟩
          refine k _ _ ⟨q, rfl, ?_⟩ ((U.Same.mut (s3.new hd) (o := HO.dK (mergeK [] [((.inr "days" : Key), V.str "days"), (.inr "days after", V.str "after")])) ?_).new hq)
          · rw [et]
            exact .inl (.inl upd_same)
          · cases e : H d with
            | none => rfl
            | some o => rw [s3 _ _ e] at hd; cases hd
        by_cases h1 : w = "days"
        · rw [if_pos h1] at k
          rw [decide_eq_true h1]
          refine iteF (go "days" (.days n) rfl ?_ k)
          rw [h1]
          decide +kernel
        · rw [if_neg h1] at k
          rw [decide_eq_false h1]
          by_cases h2 : w = "days after"
          · rw [if_pos h2] at k
            rw [decide_eq_true h2]
            refine iteF (go "after" (.after n) rfl ?_ k)
            rw [h2]
            decide +kernel
          · rw [if_neg h2] at k
            rw [decide_eq_false h2]
            exact iteT (k _ _ rfl s3)
  · exact h.elim
def oTok : Option Tm → Bool
  | some t => tmOk t
  | none => false
def oLok : Option Int → Bool
  | some l => decide (0 ≤ l) && decide (l ≤ 1000)
  | none => false
theorem pure_read_kind (vs : List V) (H : Hp) (Q : VK) (E : XK) (h : sp_read_kind K vs H Q E) : t_read_kind K (fun cls d _ H => E cls d H) { nx := fun _ H' => Q .non H', rt := Q } (start N_read_kind vs) H := by
  unfold sp_read_kind at h
  split at h
  · rename_i v
    obtain ⟨kn, k1, k2⟩ := h
    obtain ⟨T, ty, kt⟩ := kn.isS K
    refine ⟨_, rfl, v, _, _, _, _, rfl, .ty "str", ty, kt, _, rfl, ?_⟩
    cases hs : isStrV v
    · refine iteF ⟨_, rfl, rfl, _, rfl, iteT ?_⟩
      exact k2 (fun z e => by rw [e] at hs; cases hs) H (Same.refl H)
    · obtain ⟨z, rfl⟩ := isStrV_str hs
      have tx := kn.tx
      have k1 := fun x t l => k1 z x t l rfl
      have k2 := fun q => k2 (fun z' e => by rw [← V.str.inj e]; exact q)
      unfold readKind at k1 k2
      have P1 := partition_ok tx ": "
      have P2 := partition_ok P1.2.2 ","
      have L1 := partition_len (Txt.partition z ": ").2.2 ","
      refine iteT ⟨_, rfl, ⟨_, rfl⟩, _, _, rfl, rfl, rfl, Nat.le_trans tx.len (by decide), fun p hp => ?_⟩
      refine ⟨p, _, rfl, .inl (.inl upd_same), rfl, _, _, rfl, _, _, rfl, _, _, rfl, rfl, ?_⟩
      have s1 := same_new (o := .tup [V.str (Txt.partition z ": ").1, V.str (Txt.partition z ": ").2.1, V.str (Txt.partition z ": ").2.2]) hp
      refine ⟨_, rfl, ⟨_, rfl⟩, _, _, rfl, rfl, rfl, Nat.le_trans P1.2.2.len (by decide), fun p2 hp2 => ?_⟩
      refine ⟨p2, _, rfl, .inl (.inl upd_same), rfl, _, _, rfl, _, _, rfl, _, _, rfl, rfl, ?_⟩
      have s2 := s1.new (o := .tup [V.str (Txt.partition (Txt.partition z ": ").2.2 ",").1, V.str (Txt.partition (Txt.partition z ": ").2.2 ",").2.1, V.str (Txt.partition (Txt.partition z ": ").2.2 ",").2.2]) hp2
      clear s1
      refine ⟨_, rfl, P2.1, fun vt H3 hvt s3 => ?_⟩
      have s3' := s2.trans s3
      have hc : TxOk ((Txt.partition (Txt.partition z ": ").2.2 ",").2.1 ++ (Txt.partition (Txt.partition z ": ").2.2 ",").2.2) := by
        have e := PySem.StrLaws.partition_sum (Txt.partition z ": ").2.2 ","
        refine ⟨?_, fun c hc => ?_⟩
        · have e2 := congrArg Str.length e
          rw [str_cat_len, str_cat_len] at e2
          rw [str_cat_len]
          have := P1.2.2.len
          omega
        · rw [str_cat_toList] at hc
          rcases List.mem_append.mp hc with hc | hc
          · exact P2.2.1.2 c hc
          · exact P2.2.2.2 c hc
      refine ⟨_, rfl, _, rfl, _, _, rfl, rfl, ?_, hc, fun H4 s4 => ?_⟩
      · have := hc.len
        rw [str_cat_len] at this
        rw [sizeLine_eq]
        omega
      have s4' := s3'.trans s4
      have hT : OTm K H3 vt (rTerm z) := hvt
      have hL : readLeast ((Txt.partition (Txt.partition z ": ").2.2 ",").2.1 ++ (Txt.partition (Txt.partition z ": ").2.2 ",").2.2) = rLeast z := rfl
      rw [hL]
      generalize rTerm z = oT at hT k1 k2
      generalize rLeast z = oL at k1 k2 ⊢
      clear hL hc hvt P2 L1
      have kn1 : Kn K H4 (.str (Txt.partition z ": ").1) := .str P1.1
      generalize (Txt.partition z ": ").1 = nm at k1 k2 kn1 ⊢
      refine ⟨_, rfl, kn1, fun H5 s5 => ⟨_, rfl, ?_⟩⟩
      have s5' := s4'.trans s5
      have no : ∀ H9, Same H H9 → okK nm oT oL = none ∨ isNmS nm = false → E (.ref (He.ga K "NoText")) none H9 := fun H9 s9 hn => by
        refine k2 ?_ H9 s9
        rcases hn with hn | hn
        · rw [hn]
          cases isNmS nm <;> rfl
        · rw [hn]
          rfl
      show if isNmS nm = true then _ else _
      cases hnm : isNmS nm
      · refine iteF ⟨_, rfl, rfl, _, rfl, iteT ?_⟩
        exact no H5 s5' (.inr hnm)
      · refine iteT ?_
        rw [hnm, if_pos rfl] at k1
        have dT : ∃ d, Dt K H5 vt d ∧ isTermD d = oTok oT := by
          cases oT with
          | none => exact ⟨.none, by rw [show vt = V.non from hT]; exact .non, (by decide +kernel : isTermD .none = false)⟩
          | some t => exact ⟨tmD t, (TmAt.same (s4.trans s5) hT).dt, isTermD_tm t⟩
        obtain ⟨dt, hdt, edt⟩ := dT
        refine ⟨_, rfl, dt, hdt, fun H6 s6 => ⟨_, rfl, ?_⟩⟩
        have s6' := s5'.trans s6
        rw [edt]
        cases oT with
        | none =>
          refine iteF ⟨_, rfl, rfl, _, rfl, iteT ?_⟩
          exact no H6 s6' (.inl rfl)
        | some t =>
          show if tmOk t = true then _ else _
          cases ht : tmOk t
          · refine iteF ⟨_, rfl, rfl, _, rfl, iteT ?_⟩
            refine no H6 s6' (.inl ?_)
            cases oL with
            | none => rfl
            | some l => simp only [okK, ht, Bool.false_and]; rfl
          · refine iteT ?_
            have dL : ∃ d, Dt K H6 (optV oL) d ∧ wholeD d 0 1000 = oLok oL := by
              cases oL with
              | none => exact ⟨.none, .non, rfl⟩
              | some l => exact ⟨.int l, .int l, rfl⟩
            obtain ⟨dl, hdl, edl⟩ := dL
            refine ⟨_, rfl, dl, hdl.dp, _, rfl, ?_⟩
            rw [edl]
            cases oL with
            | none =>
              refine iteF ⟨_, rfl, rfl, _, rfl, iteT ?_⟩
              exact no H6 s6' (.inl rfl)
            | some l =>
              show if (decide (0 ≤ l) && decide (l ≤ 1000)) = true then _ else _
              cases hl : (decide (0 ≤ l) && decide (l ≤ 1000))
              · refine iteF ⟨_, rfl, rfl, _, rfl, iteT ?_⟩
                refine no H6 s6' (.inl ?_)
                simp only [okK, hl, Bool.and_false]
                rfl
              · refine iteT ⟨_, rfl, _, rfl, _, rfl, fun x dx nx nd ne => ?_⟩
                have k1 : ∀ p vt H', KindAt K H' p (.str nm) vt (.int l) → TmAt K H' vt t → Same H H' → Q (.ref p) H' := k1 nm t l (by simp only [okK, ht, hl, Bool.and_self, if_true])
                have s7 : Same H6 (upd (upd H6 dx (.own x)) x (.ins (He.ga K "Kind") dx [])) := fun b o e => by
                  rw [upd_ne (ne_of_none e nx), upd_ne (ne_of_none e nd)]
                  exact e
                have hg : goodK (.str nm) dt dl = true := by
                  unfold goodK
                  rw [edt, edl]
                  show (isNmS nm && (tmOk t && (decide (0 ≤ l) && decide (l ≤ 1000)))) = true
                  rw [hnm, ht, hl]
                  rfl
                refine ⟨dx, dt, dl, upd_same, ((kn1.same s5).same s6).same s7, (hdt.same s6).same s7, hdl.same s7, (fun _ H8 kA k8 => ⟨rfl, ?_⟩), (fun g => by rw [hg] at g; cases g)⟩
                have s8 : Same H6 H8 := k8.drop s7 nx
                refine ⟨_, rfl, rfl, _, rfl, iteF ⟨_, rfl, ?_⟩⟩
                exact k1 x vt H8 kA (TmAt.same s8 (TmAt.same ((s4.trans s5).trans s6) hT)) (s6'.trans s8)
  · exact h.elim
end G

set_option Elab.async false
set_option linter.all false
set_option maxRecDepth 100000
set_option maxHeartbeats 4000000
/-! Promises of what most laws have: pots and draws. -/
namespace G
open PySem PySem.Spec PyProof.Rows L2 U
/-- a pot stands at p -/
def PotAt (H : Hp) (p : Addr) : Prop := ∃ a b : Int, H p = some (.lst [.int a, .int b]) ∧ 0 ≤ a ∧ 0 ≤ b ∧ b < 2147483648
theorem PotAt.keep {l : List Addr} {H H' : Hp} {p : Addr} (h : PotAt H p) (k : Keep l H H') (n : p ∉ l) : PotAt H' p := by
  obtain ⟨a, b, e, r⟩ := h
  exact ⟨a, b, k.k _ _ e n, r⟩
def sp__law_draw (K : PySem.W.Frag) : Sp := fun vs H Q _ => match vs with
  | [.ref p, .int n] => PotAt H p ∧ 0 < n ∧ n ≤ 1000000000000000000000000000000000000000000000000000000000000 ∧ ∀ d H', 0 ≤ d → d < n → PotAt H' p → Keep [p] H H' → Q (.int d) H'
  | _ => False
/-- a word of one to eight letters -/
def isWd (z : Str) : Prop := 1 ≤ z.length ∧ z.length ≤ 8 ∧ ∀ c ∈ z.cps.toList, c ∈ abc.cps.toList
def sp__law_pot (K : PySem.W.Frag) : Sp := fun vs H Q _ => match vs with
  | [.int c] => ∀ p H', H p = none → PotAt H' p → Same H H' → Q (.ref p) H'
  | _ => False
def sp__law_word (K : PySem.W.Frag) : Sp := fun vs H Q _ => match vs with
  | [.ref p] => PotAt H p ∧ ∀ z H', isWd z → PotAt H' p → Keep [p] H H' → Q (.str z) H'
  | _ => False
def sp__law_is_name (K : PySem.W.Frag) : Sp := fun vs H Q _ => match vs with
  | [v] => Kn K H v ∧ ∀ H', Same H H' → Q (.bl (isNm v)) H'
  | _ => False
end G

set_option Elab.async false
set_option linter.all false
set_option maxRecDepth 100000
set_option maxHeartbeats 4000000

/-! Readings, printed by gen.py. -/
namespace G
open PySem PySem.Spec PyProof.Rows L2 U
abbrev N__law_is_name : List Str := ["_law_thing_here", "_law_sign"]
def t__law_is_name (K : PySem.W.Frag) : TS :=
  (tSeq (tIfS (tOr (tNot (tB (tCB (rIsi K) (tCons (tVar 0) (tCons (tC (.ty "str")) tNil))))) (tOr (tTest (tOp rLtI (tCB rLenStr (tCons (tVar 0) tNil)) (tC (.int 1)))) (tTest (tOp rGtI (tCB rLenStr (tCons (tVar 0) tNil)) (tC (.int 8)))))) (tRet (tC (.bl false))) tNext)
  (tRet (tOp (rEqD K) (tLc (iStr (tVar 0)) (gName 1) (tTest (tOp rNiSg (tVar 1) (tC (.str "abcdefghijklmnopqrstuvwxyz")))) (tVar 1) [1]) (tLst tNil))))
abbrev N__law_pot : List Str := ["_law_cell_here"]
def t__law_pot (K : PySem.W.Frag) : TS :=
  (tRet (tLst (tCons (tCB rMax2 (tCons (tC (.int 0)) (tCons (tOp rSubI (tCB rAbs (tCons (tVar 0) tNil)) (tOp rPowI (tC (.int 10)) (tC (.int 18)))) tNil))) (tCons (tOp rAddI (tOp rModI (tCB rAbs (tCons (tVar 0) tNil)) (tC (.int 2147483629))) (tC (.int 1))) tNil))))
abbrev N__law_draw : List Str := ["_law_pot_here", "_law_many", "_law_digit"]
def t__law_draw (K : PySem.W.Frag) : TS :=
  (tSeq (tIfS (tTest (tOp rGtI (tOp (rIxL K) (tVar 0) (tC (.int 0))) (tC (.int 0)))) (tSeq (tAsg (tCB rDivmod (tCons (tOp (rIxL K) (tVar 0) (tC (.int 0))) (tCons (tVar 1) tNil))) (gTup K 2 (gCons (gSub (tVar 0) (tC (.int 0)) rSetL) (gCons (gName 2) gNil))))
  (tRet (tVar 2))) tNext)
  (tSeq (tAsg (tOp rModI (tOp rAddI (tOp rMulI (tOp (rIxL K) (tVar 0) (tC (.int 1))) (tC (.int 48271))) (tC (.int 11))) (tC (.int 2147483647))) (gSub (tVar 0) (tC (.int 1)) rSetL))
  (tRet (tOp rModI (tOp rFdivI (tOp rModI (tOp rMulI (tOp (rIxL K) (tVar 0) (tC (.int 1))) (tOp (rIxL K) (tVar 0) (tC (.int 1)))) (tC (.int 2147483629))) (tC (.int 3))) (tVar 1)))))
abbrev N__law_word : List Str := ["_law_pot_here", "_law_k"]
def t__law_word (K : PySem.W.Frag) : TS :=
  (tRet (tM1 (mJoin K) (tC (.str "")) (tLc (iRng1 (tCons (tOp rAddI (tC (.int 1)) (tCl (sp__law_draw K) [] ES0 (tCons (tVar 0) (tCons (tC (.int 8)) tNil)))) tNil)) (gName 1) tYes (tOp rIxS (tC (.str "abcdefghijklmnopqrstuvwxyz")) (tCl (sp__law_draw K) [] ES0 (tCons (tVar 0) (tCons (tC (.int 26)) tNil)))) [1])))
end G

set_option Elab.async false
set_option linter.all false
set_option maxRecDepth 100000
set_option maxHeartbeats 4000000
namespace G
open PySem PySem.Spec PyProof.Rows L2 U
variable {K : PySem.W.Frag}

theorem pure__law_pot (vs : List V) (H : Hp) (Q : VK) (E : XK) (h : sp__law_pot K vs H Q E) : t__law_pot K { nx := fun _ H' => Q .non H', rt := Q } (start N__law_pot vs) H := by
  unfold sp__law_pot at h
  split at h
  · rename_i c
    refine ⟨_, rfl, c, rfl, _, _, rfl, rfl, ⟨by decide, by decide, by decide⟩, _, _, rfl, rfl, _, _, rfl, _, rfl, c, rfl, _, _, rfl, rfl, (by show (0 : Int) < 2147483629; decide), _, _, rfl, rfl, (by show 2 ≤ sizeLine; decide), fun p hp => ?_⟩
    refine h p _ hp ⟨_, _, upd_same, ?_, ?_, ?_⟩ (same_new hp)
    · split <;> omega
    · have := Int.emod_nonneg (if c < 0 then -c else c) (show (2147483629 : Int) ≠ 0 by decide)
      omega
    · have := Int.emod_lt_of_pos (if c < 0 then -c else c) (show (0 : Int) < 2147483629 by decide)
      omega
  · exact h.elim

theorem pure__law_draw (vs : List V) (H : Hp) (Q : VK) (E : XK) (h : sp__law_draw K vs H Q E) : t__law_draw K { nx := fun _ H' => Q .non H', rt := Q } (start N__law_draw vs) H := by
  unfold sp__law_draw at h
  split at h
  · rename_i p n
    obtain ⟨⟨a, b, hp, ha, hb, hb2⟩, hn, hn2, k⟩ := h
    have at0 : ∀ x y : Int, atI [V.int x, V.int y] 0 = some (V.int x) := fun x y => rfl
    have at1 : ∀ x y : Int, atI [V.int x, V.int y] 1 = some (V.int y) := fun x y => rfl
    refine ⟨_, rfl, p, _, _, _, rfl, rfl, SqL.of hp, at0 a b, _, _, rfl, rfl, _, rfl, ?_⟩
    by_cases h0 : 0 < a
    · refine ite2 (fun _ => ?_) (fun z => absurd (decide_eq_true h0) z)
      refine ⟨_, rfl, p, _, _, _, rfl, rfl, SqL.of hp, at0 a b, _, rfl, _, _, rfl, cdp hn hn2, fun t ht => ?_⟩
      have npt : p ≠ t := ne_of_none hp ht
      refine ⟨t, _, rfl, .inl (.inl upd_same), rfl, _, _, rfl, _, rfl, p, _, _, 0, rfl, rfl, by rw [upd_ne npt]; exact hp, rfl, _, _, rfl, rfl, _, rfl, ?_⟩
      refine k _ _ (Int.emod_nonneg a (by omega)) (Int.emod_lt_of_pos a hn) ⟨_, _, upd_same, Int.ediv_nonneg ha (by omega), hb, hb2⟩ ?_
      exact (Keep.refl.new ht).put (by simp)
    · refine ite2 (fun z => absurd (of_decide_eq_true z) h0) (fun _ => ?_)
      refine ⟨_, rfl, p, _, _, _, rfl, rfl, SqL.of hp, at1 a b, _, _, rfl, rfl, .inr ⟨by decide, by decide⟩, _, _, rfl, rfl, _, _, rfl, rfl, (by show (0 : Int) < 2147483647; decide), _, rfl, p, _, _, 1, rfl, rfl, hp, rfl, ?_⟩
      have m1 := Int.emod_nonneg (b * 48271 + 11) (show (2147483647 : Int) ≠ 0 by decide)
      have m2 := Int.emod_lt_of_pos (b * 48271 + 11) (show (0 : Int) < 2147483647 by decide)
      have hp' : upd H p (.lst ([V.int a, V.int b].set 1 (V.int ((b * 48271 + 11) % 2147483647)))) p = some (.lst [V.int a, V.int ((b * 48271 + 11) % 2147483647)]) := upd_same
      refine ⟨_, rfl, p, _, _, _, rfl, rfl, SqL.of hp', at1 a _, _, rfl, p, _, _, _, rfl, rfl, SqL.of hp', at1 a _, _, _, rfl, rfl, .inl ⟨by omega, by omega⟩, _, _, rfl, rfl, (by show (0 : Int) < 2147483629; decide), _, _, rfl, rfl, cdw (by decide) (by decide), _, rfl, _, _, rfl, rfl, hn, ?_⟩
      exact k _ _ (Int.emod_nonneg _ (by omega)) (Int.emod_lt_of_pos _ hn) ⟨_, _, hp', ha, m1, by omega⟩ (Keep.refl.put (by simp))
  · exact h.elim

theorem pure__law_word (vs : List V) (H : Hp) (Q : VK) (E : XK) (h : sp__law_word K vs H Q E) : t__law_word K { nx := fun _ H' => Q .non H', rt := Q } (start N__law_word vs) H := by
  unfold sp__law_word at h
  split at h
  · rename_i p
    obtain ⟨hP, k⟩ := h
    refine ⟨⟨_, rfl⟩, _, rfl, hP, by decide, by decide, fun n H1 n0 n8 P1 k1 => ?_⟩
    refine ⟨_, _, rfl, rfl, _, rfl, by omega, by omega, fun D hD => ?_⟩
    have pd : p ≠ D := by
      obtain ⟨a, b, e, _⟩ := P1
      exact ne_of_none e hD
    have hD0 : H D = none := k1.free (by simp [pd.symm]) hD
    have hPD : PotAt (upd H1 D (.lst [])) p := P1.keep (l := []) (.same (same_new hD)) (by simp)
    refine lc_range (g := gName 1) (vs := [1]) (lo := 0) (n := (1 + n).toNat) (fun i H' => PotAt H' p ∧ Keep [p] H H' ∧ ∃ cs : List Nat, cs.length = i ∧ (∀ c ∈ cs, c ∈ abc.cps.toList) ∧ H' D = some (.lst (cs.map fun c => V.str ⟨#[c]⟩))) ⟨hPD, k1.new hD0, [], rfl, by simp, upd_same⟩ (fun i H2 hi ⟨P2, k2, cs, hl, hc, hd⟩ => ?_) (fun H2 ⟨P2, k2, cs, hl, hc, hd⟩ => ?_)
    · refine ⟨wipe1, _, rfl, P2, by decide, by decide, fun d H3 d0 d26 P3 k3 => ?_⟩
      obtain ⟨c, hat, hmem⟩ := abc_at d0 d26
      have hd3 := k3.k _ _ hd (by simp [pd.symm])
      refine ⟨_, _, c, rfl, rfl, by rw [abc_size]; decide, hat, _, hd3, by rw [List.length_map, sizeLine_eq]; omega, ?_⟩
      refine ⟨P3.keep (l := [D]) (Keep.refl.put (by simp)) (by simp [pd]), (k2.trans k3).new hD0, cs ++ [c], by simp [hl], ?_, by rw [upd_same, List.map_append]; rfl⟩
      intro x hx
      rcases List.mem_append.mp hx with hx | hx
      · exact hc x hx
      · rw [List.mem_singleton.mp hx]
        exact hmem
    · refine ⟨_, D, cs.map fun c => (⟨#[c]⟩ : Str), rfl, rfl, .inl (SqL.of (by rw [hd, List.map_map]; rfl)), ?_, ?_⟩
      · rw [signs_len, List.length_map]
        show cs.length + cs.length * 0 ≤ 16777216
        omega
      · rw [join_signs]
        refine k _ _ ⟨by rw [SX.S_len]; omega, by rw [SX.S_len]; omega, fun c hx => hc c ?_⟩ P2 k2
        simpa using hx
  · exact h.elim
theorem pure__law_is_name (vs : List V) (H : Hp) (Q : VK) (E : XK) (h : sp__law_is_name K vs H Q E) : t__law_is_name K { nx := fun _ H' => Q .non H', rt := Q } (start N__law_is_name vs) H := by
  unfold sp__law_is_name at h
  split at h
  · rename_i v
    obtain ⟨kn, k⟩ := h
    obtain ⟨T, ty, kt⟩ := kn.isS K
    refine ⟨v, rfl, v, _, _, _, _, rfl, .ty "str", ty, kt, _, rfl, ?_⟩
    cases hs : isStrV v
    rotate_left
    · obtain ⟨z, rfl⟩ := isStrV_str hs
      refine iteF ?_
      have hz : z.length ≤ sizeLine := Nat.le_trans kn.tx.len (by decide)
      have k0 := k H (Same.refl H)
      refine ⟨_, rfl, z, rfl, hz, _, _, rfl, rfl, _, rfl, ?_⟩
      by_cases h1 : (z.length : Int) < 1
      · refine ite2 (fun _ => ?_) (fun n => absurd (decide_eq_true h1) n)
        have e1 : isNm (V.str z) = false := by
          show isNmS z = false
          unfold isNmS
          rw [decide_eq_false (show ¬ 1 ≤ z.length by omega)]
          simp
        rw [e1] at k0
        exact k0
      · refine ite2 (fun n => absurd (of_decide_eq_true n) h1) (fun _ => ?_)
        refine ⟨_, rfl, z, rfl, hz, _, _, rfl, rfl, _, rfl, ?_⟩
        by_cases h8 : (8 : Int) < z.length
        · refine ite2 (fun _ => ?_) (fun n => absurd (decide_eq_true h8) n)
          have e1 : isNm (V.str z) = false := by
            show isNmS z = false
            unfold isNmS
            rw [decide_eq_false (show ¬ z.length ≤ 8 by omega)]
            simp
          rw [e1] at k0
          exact k0
        · refine ite2 (fun n => absurd (of_decide_eq_true n) h8) (fun _ => ?_)
          refine ⟨_, rfl, z, rfl, fun D hD => ?_⟩
          refine lcs_fm (fun c => !decide (c ∈ abc.cps.toList)) (fun c => V.str ⟨#[c]⟩) (show z.length ≤ 1000000 from Nat.le_trans kn.tx.len (by decide)) (fun c acc R _ r => ?_) (fun c acc R _ _ r => ?_) ?_
          · exact ⟨_, rfl, c, _, rfl, rfl, _, rfl, r⟩
          · exact ⟨_, rfl, r⟩
          · refine ⟨Nat.zero_le _, fun L hL => ?_⟩
            have nDL : D ≠ L := fun e => by
              rw [← e, upd_same] at hL
              cases hL
            refine ⟨.list ((((z.cps.toList.filter fun c => !decide (c ∈ abc.cps.toList)).map fun c => (⟨#[c]⟩ : Str))).map PyData.str), .list [], .lst (SqL.of (xs := ((z.cps.toList.filter fun c => !decide (c ∈ abc.cps.toList)).map fun c => (⟨#[c]⟩ : Str)).map V.str) ?_) (dpAll_strs _), .lst (SqL.of upd_same) .nil, shaped_strs ?_, rfl, ?_⟩
            · rw [upd_ne nDL, upd_same, List.map_map]
              rfl
            · intro y hy c hc
              obtain ⟨c', hc', rfl⟩ := List.mem_map.mp hy
              have e : c = c' := by simpa using hc
              rw [e]
              exact kn.tx.ok c' (List.mem_filter.mp hc').1
            · rw [eqv_nil]
              have e2 := k _ (U.Same.new (same_new (o := HO.lst ((z.cps.toList.filter fun c => !decide (c ∈ abc.cps.toList)).map fun c => V.str ⟨#[c]⟩)) hD) (o := HO.lst []) hL)
              have e1 : isNm (V.str z) = (List.map PyData.str ((z.cps.toList.filter fun c => !decide (c ∈ abc.cps.toList)).map fun c => (⟨#[c]⟩ : Str))).isEmpty := by
                show isNmS z = _
                unfold isNmS
                rw [decide_eq_true (show 1 ≤ z.length by omega), decide_eq_true (show z.length ≤ 8 by omega), Bool.true_and, Bool.true_and]
                rw [Bool.eq_iff_iff, List.isEmpty_iff, List.map_eq_nil_iff, List.map_eq_nil_iff, List.filter_eq_nil_iff, List.all_eq_true]
                simp
              rw [e1] at e2
              exact e2
    · refine iteT (iteT ?_)
      have e1 : isNm v = false := isNm_notStr hs
      have e2 := k H (Same.refl H)
      rw [e1] at e2
      exact e2
  · exact h.elim

theorem isWd.ok {z : Str} (h : isWd z) : TxOk z := ⟨by have := h.2.1; omega, fun c hc => by
  have h1 := h.2.2 c hc
  have h2 : ∀ d ∈ abc.cps.toList, d < 1114112 := by decide +kernel
  exact h2 c h1⟩
end G

set_option Elab.async false
set_option linter.all false
set_option maxRecDepth 100000
set_option maxHeartbeats 4000000
/-! Plain law of k14: what is written is read. -/
namespace G
open PySem PySem.Spec PyProof.Rows L2 U
abbrev numT (n : Int) : Str := Str.ofString (toString n)
def showT : Tm → Str
  | .ever => "ever"
  | .days n => numT n ++ " days"
  | .after n => numT n ++ " days after"
def showK (x : Str) (t : Tm) (l : Int) : Str := if 0 < l then (x ++ ": " ++ showT t) ++ ((", " ++ numT l) ++ " people") else x ++ ": " ++ showT t
theorem numL_head : ∀ n : Nat, 0 < n → ∃ c r, TL.numL n = c :: r ∧ 49 ≤ c := fun n => by
  induction n using Nat.strongRecOn with
  | _ n ih =>
    intro h
    by_cases h1 : n < 10
    · exact ⟨48 + n, [], TL.numL_lt h1, by omega⟩
    · obtain ⟨c, r, e, hc⟩ := ih (n / 10) (by omega) (by omega)
      exact ⟨c, r ++ [48 + n % 10], by rw [TL.numL_step (by omega), e]; rfl, hc⟩
theorem numT_tl {n : Int} (h : 0 ≤ n) : (numT n).cps.toList = TL.numL n.toNat := by
  obtain ⟨m, rfl⟩ := Int.eq_ofNat_of_zero_le h
  exact TL.tl_num m
theorem numT_len {n : Int} (h : 0 ≤ n) (h1 : n < 1000000) : 1 ≤ (numT n).length ∧ (numT n).length ≤ 6 := by
  have e := numT_tl h
  have el : (numT n).length = (TL.numL n.toNat).length := by rw [← e]; exact TL.len_tl _
  rw [el]
  refine ⟨?_, TL.numL_len (by decide) (by omega)⟩
  have := TL.numL_ne n.toNat
  cases h2 : TL.numL n.toNat with
  | nil => exact absurd h2 this
  | cons a b => simp
theorem dig_mem : ∀ c : Nat, 48 ≤ c → c ≤ 57 → c ∈ figs.cps.toList := fun c h1 h2 => by
  have h : ∀ i : Nat, i < 10 → (48 + i) ∈ figs.cps.toList := by decide +kernel
  have := h (c - 48) (by omega)
  rw [show 48 + (c - 48) = c by omega] at this
  exact this
theorem readFig_num {n : Int} (h : 0 ≤ n) (h1 : n < 1000000) : readFig (numT n) = some n := by
  obtain ⟨l1, l2⟩ := numT_len h h1
  have e := numT_tl h
  have hf : figOk (numT n) = true := by
    unfold figOk
    rw [decide_eq_true l1, decide_eq_true l2, e, Bool.true_and, Bool.true_and, List.all_eq_true]
    intro c hc
    have := TL.numL_digits n.toNat c hc
    exact decide_eq_true (dig_mem c this.1 this.2)
  unfold readFig
  rw [if_pos hf, e, TL.numL_val, if_neg]
  · rw [Int.toNat_of_nonneg h]
  · rintro ⟨h2, h3⟩
    by_cases h0 : n = 0
    · subst h0
      exact h3 rfl
    · obtain ⟨c, r, er, hc⟩ := numL_head n.toNat (by omega)
      rw [er] at h2
      have h4 : atI (c :: r) 0 = some c := atI_nat (j := 0) rfl
      rw [h4] at h2
      have := Option.some.inj h2
      omega
theorem numT_free {n : Int} (h : 0 ≤ n) {s : Nat} (hs : s < 48 ∨ 57 < s) : s ∉ (numT n).cps.toList := by
  rw [numT_tl h]
  exact TL.numL_free hs
theorem cat_assoc (a b c : Str) : a ++ b ++ c = a ++ (b ++ c) := Str.append_assoc a b c
theorem readTerm_show {t : Tm} (h : tmOk t = true) : readTerm (showT t) = some t := by
  have key : ∀ (n : Int) (w : Str), 0 ≤ n → n ≤ 100000 → numT n ++ (" " ++ w) ≠ "ever" ∧ Txt.partition (numT n ++ (" " ++ w)) " " = (numT n, (" " : Str), w) := fun n w h0 h1 => by
    constructor
    · intro e
      have e2 := congrArg (fun s : Str => s.cps.toList) e
      simp only [str_cat_toList] at e2
      have h32 : (32 : Nat) ∈ ("ever" : Str).cps.toList := by
        rw [← e2]
        refine List.mem_append_right _ (List.mem_append_left _ ?_)
        decide +kernel
      exact absurd h32 (by decide +kernel)
    · rw [← cat_assoc]
      exact TL.partition_app (s := 32) (S := []) (by decide +kernel) (numT_free h0 (by decide))
  cases t with
  | ever =>
    unfold readTerm
    exact if_pos rfl
  | days n =>
    obtain ⟨h1, h2⟩ := Bool.and_eq_true_iff.mp h
    have h1 := of_decide_eq_true h1
    have h2 := of_decide_eq_true h2
    have e : showT (.days n) = numT n ++ (" " ++ "days") := by
      show numT n ++ " days" = _
      congr 1
    obtain ⟨k1, k2⟩ := key n "days" (by omega) h2
    rw [e]
    unfold readTerm
    rw [if_neg k1, k2, readFig_num (by omega) (by omega)]
    rfl
  | after n =>
    obtain ⟨h1, h2⟩ := Bool.and_eq_true_iff.mp h
    have h1 := of_decide_eq_true h1
    have h2 := of_decide_eq_true h2
    have e : showT (.after n) = numT n ++ (" " ++ "days after") := by
      show numT n ++ " days after" = _
      congr 1
    obtain ⟨k1, k2⟩ := key n "days after" (by omega) h2
    rw [e]
    unfold readTerm
    rw [if_neg k1, k2, readFig_num (by omega) (by omega)]
    show (if ("days after" : Str) = "days" then some (Tm.days n) else if ("days after" : Str) = "days after" then some (Tm.after n) else none) = _
    rw [if_neg (by decide +kernel), if_pos rfl]
theorem readLeast_show {l : Int} (h0 : 0 < l) (h1 : l ≤ 1000) : readLeast ((", " ++ numT l) ++ " people") = some l := by
  have e2 : (", " : Str).cps.toList = [44, 32] := by decide +kernel
  have e7 : (" people" : Str).cps.toList = [32, 112, 101, 111, 112, 108, 101] := by decide +kernel
  have et : ((", " ++ numT l) ++ " people" : Str).cps.toList = [44, 32] ++ (numT l).cps.toList ++ [32, 112, 101, 111, 112, 108, 101] := by
    rw [str_cat_toList, str_cat_toList, e2, e7]
  have el : ((", " ++ numT l) ++ " people" : Str).length = (numT l).cps.toList.length + 9 := by
    rw [TL.len_tl]
    unfold TL.tl
    rw [et]
    simp
  generalize ((", " ++ numT l) ++ " people" : Str) = z at et el ⊢
  have n0 : z ≠ "" := fun e => by
    rw [str_eq_nil] at e
    omega
  have sw : Txt.startswith z ", " = true := by
    show (decide (0 + 2 ≤ z.length) && Builtin.Str.subAt z ", " 0) = true
    rw [decide_eq_true (by omega), PySem.StrLaws.subAt_eq, et, e2]
    rfl
  have ew : Txt.endswith z " people" = true := by
    show (decide (0 + 7 ≤ z.length) && Builtin.Str.subAt z " people" (z.length - 7)) = true
    rw [decide_eq_true (by omega), PySem.StrLaws.subAt_eq, et, e7, el, List.drop_append_of_le_length (by simp)]
    have : List.drop ((numT l).cps.toList.length + 9 - 7) ([44, 32] ++ (numT l).cps.toList) = [] := List.drop_eq_nil_of_le (by simp)
    rw [this]
    rfl
  have ec : cutS z (some 2) (some (-7)) = numT l := by
    refine TL.ext_tl ?_
    show ((z.cps.toList.drop (HT.sIx z.length 0 (some 2))).take (HT.sIx z.length z.length (some (-7)) - HT.sIx z.length 0 (some 2))) = (numT l).cps.toList
    have a1 : HT.sIx z.length 0 (some 2) = 2 := by
      show (if (2 : Int) < 0 then ((2 : Int) + (z.length : Int)).toNat else min (2 : Int).toNat z.length) = 2
      rw [if_neg (by decide)]
      show min 2 z.length = 2
      omega
    have a2 : HT.sIx z.length z.length (some (-7)) = (numT l).cps.toList.length + 2 := by
      show (if (-7 : Int) < 0 then ((-7 : Int) + (z.length : Int)).toNat else min (-7 : Int).toNat z.length) = _
      rw [if_pos (by decide), el]
      omega
    rw [a1, a2, et]
    show List.take ((numT l).cps.toList.length + 2 - 2) ((numT l).cps.toList ++ _) = _
    rw [Nat.add_sub_cancel]
    exact List.take_left
  unfold readLeast
  rw [if_neg n0, if_pos sw, if_pos ew, ec, readFig_num (by omega) (by omega), if_neg]
  intro e
  have := Option.some.inj e
  omega
theorem wd_nm {x : Str} (h1 : 1 ≤ x.length) (h2 : x.length ≤ 8) (h3 : ∀ c ∈ x.cps.toList, c ∈ abc.cps.toList) : isNmS x = true := by
  unfold isNmS
  rw [decide_eq_true h1, decide_eq_true h2, Bool.true_and, Bool.true_and, List.all_eq_true]
  exact fun c hc => decide_eq_true (h3 c hc)
theorem showT_free {t : Tm} (h : tmOk t = true) : 44 ∉ (showT t).cps.toList := by
  cases t with
  | ever => decide +kernel
  | days n =>
    have h1 := of_decide_eq_true (Bool.and_eq_true_iff.mp h).1
    show 44 ∉ (numT n ++ " days" : Str).cps.toList
    rw [str_cat_toList, List.mem_append]
    rintro (q | q)
    · exact numT_free (by omega) (by decide) q
    · exact absurd q (by decide +kernel)
  | after n =>
    have h1 := of_decide_eq_true (Bool.and_eq_true_iff.mp h).1
    show 44 ∉ (numT n ++ " days after" : Str).cps.toList
    rw [str_cat_toList, List.mem_append]
    rintro (q | q)
    · exact numT_free (by omega) (by decide) q
    · exact absurd q (by decide +kernel)
theorem readKind_show {x : Str} {t : Tm} {l : Int} (h1 : 1 ≤ x.length) (h2 : x.length ≤ 8) (h3 : ∀ c ∈ x.cps.toList, c ∈ abc.cps.toList) (ht : tmOk t = true) (l0 : 0 ≤ l) (l1 : l ≤ 1000) : readKind (showK x t l) = some (x, t, l) := by
  have hx : 58 ∉ x.cps.toList := fun q => absurd (h3 _ q) (by decide +kernel)
  have hn := wd_nm h1 h2 h3
  have p1 : ∀ r : Str, Txt.partition (x ++ ": " ++ r) ": " = (x, (": " : Str), r) := fun r => TL.partition_app (s := 58) (S := [32]) (by decide +kernel) hx
  have ok : okK x (some t) (some l) = some (x, t, l) := by
    show (if (tmOk t && (decide (0 ≤ l) && decide (l ≤ 1000))) = true then some (x, t, l) else none) = _
    rw [ht, decide_eq_true l0, decide_eq_true l1]
    rfl
  unfold showK
  by_cases hl : 0 < l
  · rw [if_pos hl]
    have e : (x ++ ": " ++ showT t) ++ ((", " ++ numT l) ++ " people") = x ++ ": " ++ (showT t ++ "," ++ ((" " ++ numT l) ++ " people")) := by
      have e0 : (", " : Str) = "," ++ " " := by decide +kernel
      rw [e0]
      simp only [cat_assoc]
    have p2 : Txt.partition (showT t ++ "," ++ ((" " ++ numT l) ++ " people")) "," = (showT t, ("," : Str), ((" " ++ numT l) ++ " people" : Str)) := TL.partition_app (s := 44) (S := []) (by decide +kernel) (showT_free ht)
    rw [e]
    unfold readKind rTerm rLeast
    rw [p1]
    simp only []
    rw [p2]
    simp only []
    have e3 : ("," ++ ((" " ++ numT l) ++ " people") : Str) = (", " ++ numT l) ++ " people" := by
      have e0 : (", " : Str) = "," ++ " " := by decide +kernel
      rw [e0]
      simp only [cat_assoc]
    rw [e3, readTerm_show ht, readLeast_show hl l1, if_pos hn, ok]
  · rw [if_neg hl]
    have hl : l = 0 := by omega
    subst hl
    have p2 : Txt.partition (showT t) "," = (showT t, Str.empty, Str.empty) := TL.partition_none (s := 44) (S := []) (by decide +kernel) (showT_free ht)
    unfold readKind rTerm rLeast
    rw [p1]
    simp only []
    rw [p2]
    simp only []
    have e3 : readLeast (Str.empty ++ Str.empty) = some 0 := by decide +kernel
    rw [e3, readTerm_show ht, if_pos hn, ok]
end G

set_option Elab.async false
set_option linter.all false
set_option maxRecDepth 100000
set_option maxHeartbeats 4000000
/-! Plain law of k15: the law's own look at a text and the program's reading agree. -/
namespace G15
open PySem PyProof.Rows L2 U G
abbrev E5 : List Nat := [32, 100, 97, 121, 115]
abbrev E11 : List Nat := [32, 100, 97, 121, 115, 32, 97, 102, 116, 101, 114]
abbrev E7 : List Nat := [32, 112, 101, 111, 112, 108, 101]
theorem e5 : (" days" : Str).cps.toList = E5 := by decide +kernel
theorem e11 : (" days after" : Str).cps.toList = E11 := by decide +kernel
theorem e7 : (" people" : Str).cps.toList = E7 := by decide +kernel
theorem eSep : (", " : Str).cps.toList = [44, 32] := by decide +kernel

/-! ### ends of texts -/
theorem cut_tail (y : Str) (k : Nat) (hk : 0 < k) : (cutS y (some (-(k : Int))) none).cps.toList = y.cps.toList.drop (y.cps.toList.length - k) := by
  show ((y.cps.toList.drop (HT.sIx y.length 0 (some (-(k : Int))))).take (y.length - HT.sIx y.length 0 (some (-(k : Int))))) = _
  have e : HT.sIx y.length 0 (some (-(k : Int))) = y.cps.toList.length - k := by
    show (if -(k : Int) < 0 then (-(k : Int) + (y.length : Int)).toNat else _) = _
    rw [if_pos (by omega), show y.length = y.cps.toList.length from TL.len_tl y]
    omega
  rw [e, show y.length = y.cps.toList.length from TL.len_tl y]
  exact List.take_of_length_le (by rw [List.length_drop]; exact Nat.le_refl _)
theorem cut_head (y : Str) (k : Nat) (hk : 0 < k) : (cutS y none (some (-(k : Int)))).cps.toList = y.cps.toList.take (y.cps.toList.length - k) := by
  show ((y.cps.toList.drop 0).take (HT.sIx y.length y.length (some (-(k : Int))) - 0)) = _
  have e : HT.sIx y.length y.length (some (-(k : Int))) = y.cps.toList.length - k := by
    show (if -(k : Int) < 0 then (-(k : Int) + (y.length : Int)).toNat else _) = _
    rw [if_pos (by omega), show y.length = y.cps.toList.length from TL.len_tl y]
    omega
  rw [e]
  rfl
/-- a text ends with E, or doesn't -/
theorem ends {y w : Str} {E : List Nat} (hw : w.cps.toList = E) {k : Nat} (hE : E.length = k) (hk : 0 < k) :
    (cutS y (some (-(k : Int))) none = w ∧ y.cps.toList = (cutS y none (some (-(k : Int)))).cps.toList ++ E) ∨ (cutS y (some (-(k : Int))) none ≠ w ∧ ∀ d, y.cps.toList ≠ d ++ E) := by
  by_cases h : cutS y (some (-(k : Int))) none = w
  · refine .inl ⟨h, ?_⟩
    rw [cut_head y k hk, ← hw, ← h, cut_tail y k hk, List.take_append_drop]
  · refine .inr ⟨h, fun d e => h (TL.ext_tl ?_)⟩
    show (cutS y (some (-(k : Int))) none).cps.toList = w.cps.toList
    rw [cut_tail y k hk, e, hw, List.length_append, hE, Nat.add_sub_cancel, List.drop_left]
theorem ends11 (y : Str) : (cutS y (some (-11)) none = " days after" ∧ y.cps.toList = (cutS y none (some (-11))).cps.toList ++ E11) ∨ (cutS y (some (-11)) none ≠ " days after" ∧ ∀ d, y.cps.toList ≠ d ++ E11) := ends (y := y) e11 (k := 11) rfl (by decide)
theorem ends5 (y : Str) : (cutS y (some (-5)) none = " days" ∧ y.cps.toList = (cutS y none (some (-5))).cps.toList ++ E5) ∨ (cutS y (some (-5)) none ≠ " days" ∧ ∀ d, y.cps.toList ≠ d ++ E5) := ends (y := y) e5 (k := 5) rfl (by decide)
theorem ends7 (y : Str) : (cutS y (some (-7)) none = " people" ∧ y.cps.toList = (cutS y none (some (-7))).cps.toList ++ E7) ∨ (cutS y (some (-7)) none ≠ " people" ∧ ∀ d, y.cps.toList ≠ d ++ E7) := ends (y := y) e7 (k := 7) rfl (by decide)
theorem app_end {a b E : List Nat} (h : a ++ E = b ++ E) : a = b := List.append_cancel_right h

/-! ### figures -/
theorem fig_digits {y : Str} {n : Int} (h : readFig y = some n) : (∀ c ∈ y.cps.toList, 48 ≤ c ∧ c ≤ 57) ∧ 0 ≤ n := by
  unfold readFig at h
  split at h
  · rename_i hf
    unfold figOk at hf
    obtain ⟨_, h2⟩ := Bool.and_eq_true_iff.mp hf
    have dg : ∀ c ∈ figs.cps.toList, 48 ≤ c ∧ c ≤ 57 := by decide +kernel
    refine ⟨fun c hc => dg c (of_decide_eq_true (List.all_eq_true.mp h2 c hc)), ?_⟩
    split at h
    · cases h
    · have := Option.some.inj h
      omega
  · cases h
theorem fig_free {y : Str} {n : Int} (h : readFig y = some n) {c : Nat} (hc : c < 48 ∨ 57 < c) : c ∉ y.cps.toList := fun m => by
  have := (fig_digits h).1 c m
  omega
theorem fig_nil : readFig "" = none := by decide +kernel

/-! ### terms -/
def okT : Option Tm → Option Tm
  | some t => if tmOk t = true then some t else none
  | none => none
def lawTerm (y : Str) : Option Tm :=
  if y = "ever" then some .ever else
  if cutS y (some (-11)) none = " days after" then
    (match readFig (cutS y none (some (-11))) with
    | none => none
    | some n => if n < 0 ∨ 100000 < n then none else some (.after n))
  else if cutS y (some (-5)) none = " days" then
    (match readFig (cutS y none (some (-5))) with
    | none => none
    | some n => if n < 1 ∨ 100000 < n then none else some (.days n))
  else none
theorem read_at {y : Str} (h0 : y ≠ "ever") {d : List Nat} {w : Str} (e : y.cps.toList = d ++ 32 :: w.cps.toList) {n : Int} (h : readFig (SX.S d) = some n) :
    readTerm y = if w = "days" then some (.days n) else if w = "days after" then some (.after n) else none := by
  have hd : (32 : Nat) ∉ (SX.S d).cps.toList := fig_free h (by decide)
  have e1 : y = SX.S d ++ " " ++ w := TL.ext_tl (by
    rw [TL.tl_append, TL.tl_append]
    show y.cps.toList = (d ++ [32]) ++ w.cps.toList
    rw [e, List.append_assoc]
    rfl)
  have e2 : Txt.partition y " " = (SX.S d, (" " : Str), w) := by
    rw [e1]
    exact TL.partition_app (s := 32) (S := []) (by decide +kernel) hd
  unfold readTerm
  rw [if_neg h0, e2]
  simp only [h]
theorem wDays : ("days" : Str).cps.toList = [100, 97, 121, 115] := by decide +kernel
theorem wAfter : ("days after" : Str).cps.toList = [100, 97, 121, 115, 32, 97, 102, 116, 101, 114] := by decide +kernel
theorem read_days {y : Str} (h0 : y ≠ "ever") {d : List Nat} (e : y.cps.toList = d ++ E5) {n : Int} (h : readFig (SX.S d) = some n) : readTerm y = some (.days n) := by
  rw [read_at h0 (w := "days") (by rw [wDays]; exact e) h, if_pos rfl]
theorem read_after {y : Str} (h0 : y ≠ "ever") {d : List Nat} (e : y.cps.toList = d ++ E11) {n : Int} (h : readFig (SX.S d) = some n) : readTerm y = some (.after n) := by
  rw [read_at h0 (w := "days after") (by rw [wAfter]; exact e) h, if_neg (by decide +kernel), if_pos rfl]
/-- what is read comes of figures and one of two ends -/
theorem read_of {y : Str} (h0 : y ≠ "ever") {t : Tm} (h : readTerm y = some t) : ∃ d n, readFig (SX.S d) = some n ∧ ((y.cps.toList = d ++ E5 ∧ t = .days n) ∨ (y.cps.toList = d ++ E11 ∧ t = .after n)) := by
  have hs := PySem.StrLaws.partition_sum y " "
  have h' := h
  unfold readTerm at h
  rw [if_neg h0] at h
  cases hf : readFig (Txt.partition y " ").1 with
  | none =>
    rw [hf] at h
    cases h
  | some n =>
    rw [hf] at h
    have hL : y.cps.toList = (Txt.partition y " ").1.cps.toList ++ ((Txt.partition y " ").2.1.cps.toList ++ (Txt.partition y " ").2.2.cps.toList) := by
      have e := congrArg (fun s : Str => s.cps.toList) hs
      simp only [str_cat_toList] at e
      rw [← e, List.append_assoc]
    have hsep : (Txt.partition y " ").2.1.cps.toList = [32] ∨ (Txt.partition y " ").2.2.cps.toList = [] := by
      rcases PyProof.Rows.partition_whole y " " with ⟨e, _⟩ | ⟨i, e, _⟩
      · right
        rw [e]
        rfl
      · left
        rw [e]
        exact (by decide +kernel : (" " : Str).cps.toList = [32])
    refine ⟨(Txt.partition y " ").1.cps.toList, n, by rw [SX.S_tl]; exact hf, ?_⟩
    by_cases c1 : (Txt.partition y " ").2.2 = "days"
    · simp only [c1, if_true] at h
      have e2 : (Txt.partition y " ").2.2.cps.toList = [100, 97, 121, 115] := by rw [c1]; exact wDays
      rcases hsep with e1 | e1
      · rw [e1, e2] at hL
        exact .inl ⟨hL, (Option.some.inj h).symm⟩
      · rw [e1] at e2
        cases e2
    · by_cases c2 : (Txt.partition y " ").2.2 = "days after"
      · have e2 : (Txt.partition y " ").2.2.cps.toList = [100, 97, 121, 115, 32, 97, 102, 116, 101, 114] := by rw [c2]; exact wAfter
        simp only [c1, if_false, c2, if_true] at h
        rcases hsep with e1 | e1
        · rw [e1, e2] at hL
          refine .inr ⟨hL, (Option.some.inj h).symm⟩
        · rw [e1] at e2
          cases e2
      · simp only [c1, c2, if_false] at h
        cases h
theorem last_ne {a b : List Nat} (h : a ++ E5 = b ++ E11) : False := by
  have e := congrArg List.getLast? h
  rw [List.getLast?_append, List.getLast?_append] at e
  revert e
  simp
theorem term_same (y : Str) : lawTerm y = okT (readTerm y) := by
  unfold lawTerm
  by_cases h0 : y = "ever"
  · rw [if_pos h0]
    unfold readTerm
    rw [if_pos h0]
    rfl
  rw [if_neg h0]
  have S1 : SX.S (cutS y none (some (-11))).cps.toList = cutS y none (some (-11)) := SX.S_tl _
  have S2 : SX.S (cutS y none (some (-5))).cps.toList = cutS y none (some (-5)) := SX.S_tl _
  rcases ends11 y with ⟨c, e⟩ | ⟨c, e⟩
  · rw [if_pos c]
    cases hf : readFig (cutS y none (some (-11))) with
    | some n =>
      rw [read_after h0 e (by rw [S1]; exact hf)]
      have := (fig_digits hf).2
      show (if n < 0 ∨ 100000 < n then none else some (Tm.after n)) = if (decide (0 ≤ n) && decide (n ≤ 100000)) = true then some (Tm.after n) else none
      by_cases c2 : 100000 < n
      · rw [if_pos (.inr c2), if_neg (by simp; omega)]
      · rw [if_neg (by omega), if_pos (by simp; omega)]
    | none =>
      show none = _
      cases hr : readTerm y with
      | none => rfl
      | some t =>
        obtain ⟨d, n, h1, ⟨h2, _⟩ | ⟨h2, _⟩⟩ := read_of h0 hr
        · exact (last_ne (h2.symm.trans e)).elim
        · have ed := app_end (h2.symm.trans e)
          rw [ed, S1, hf] at h1
          cases h1
  · rw [if_neg c]
    rcases ends5 y with ⟨c5, e'⟩ | ⟨c5, e'⟩
    · rw [if_pos c5]
      cases hf : readFig (cutS y none (some (-5))) with
      | some n =>
        rw [read_days h0 e' (by rw [S2]; exact hf)]
        show (if n < 1 ∨ 100000 < n then none else some (Tm.days n)) = if (decide (1 ≤ n) && decide (n ≤ 100000)) = true then some (Tm.days n) else none
        by_cases c2 : n < 1 ∨ 100000 < n
        · rw [if_pos c2, if_neg (by simp; omega)]
        · rw [if_neg c2, if_pos (by simp; omega)]
      | none =>
        show none = _
        cases hr : readTerm y with
        | none => rfl
        | some t =>
          obtain ⟨d, n, h1, ⟨h2, _⟩ | ⟨h2, _⟩⟩ := read_of h0 hr
          · have ed := app_end (h2.symm.trans e')
            rw [ed, S2, hf] at h1
            cases h1
          · exact (e _ h2).elim
    · rw [if_neg c5]
      cases hr : readTerm y with
      | none => rfl
      | some t =>
        obtain ⟨d, n, h1, ⟨h2, _⟩ | ⟨h2, _⟩⟩ := read_of h0 hr
        · exact (e' _ h2).elim
        · exact (e _ h2).elim
/-- a term has no comma -/
theorem term_free {y : Str} {t : Tm} (h : lawTerm y = some t) : (44 : Nat) ∉ y.cps.toList := fun m => by
  by_cases h0 : y = "ever"
  · subst h0
    exact absurd m (by decide +kernel)
  rw [term_same] at h
  cases hr : readTerm y with
  | none => rw [hr] at h; cases h
  | some t' =>
    obtain ⟨d, n, h1, ⟨h2, _⟩ | ⟨h2, _⟩⟩ := read_of h0 hr
    · rw [h2] at m
      rcases List.mem_append.mp m with m | m
      · exact fig_free h1 (by decide) m
      · exact absurd m (by decide)
    · rw [h2] at m
      rcases List.mem_append.mp m with m | m
      · exact fig_free h1 (by decide) m
      · exact absurd m (by decide)

/-! ### parts -/
theorem spl_hd (S : List Nat) : ∀ (L : List Nat) (k : Nat) (acc : List Nat), ∃ h t, TL.spl S k acc L = h :: t ∧ ∀ c ∈ acc, c ∈ h
  | [], k, acc => ⟨acc, [], TL.spl_nil S k acc, fun c h => h⟩
  | d :: r, k + 1, acc => spl_hd S r k acc
  | d :: r, 0, acc => by
    show ∃ h t, (if TL.pre S (d :: r) = true then acc :: TL.spl S (S.length - 1) [] r else TL.spl S 0 (acc ++ [d]) r) = h :: t ∧ ∀ c ∈ acc, c ∈ h
    split
    · exact ⟨acc, _, rfl, fun c h => h⟩
    · obtain ⟨h, t, e, m⟩ := spl_hd S r 0 (acc ++ [d])
      exact ⟨h, t, e, fun c hc => m c (List.mem_append_left _ hc)⟩
theorem spl_one (S : List Nat) : ∀ (L acc h : List Nat), TL.spl S 0 acc L = [h] → h = acc ++ L
  | [], acc, h, e => by
    rw [TL.spl_nil] at e
    rw [List.append_nil]
    exact (List.cons.inj e).1.symm
  | d :: r, acc, h, e => by
    have e : (if TL.pre S (d :: r) = true then acc :: TL.spl S (S.length - 1) [] r else TL.spl S 0 (acc ++ [d]) r) = [h] := e
    split at e
    · obtain ⟨a, b, e2, _⟩ := spl_hd S r (S.length - 1) []
      rw [e2] at e
      exact nomatch (List.cons.inj e).2
    · have := spl_one S r (acc ++ [d]) h e
      rw [this, List.append_assoc]
      rfl
/-- where the first comma has no blank behind it, the first part has a comma -/
theorem spl_comma : ∀ (w acc m : List Nat), 44 ∉ w → m.head? ≠ some 32 → ∃ h t, TL.spl [44, 32] 0 acc (w ++ 44 :: m) = h :: t ∧ 44 ∈ h
  | [], acc, m, _, hm => by
    have e : TL.pre [44, 32] (44 :: m) = false := by
      unfold TL.pre
      cases m with
      | nil => rfl
      | cons c r =>
        have : c ≠ 32 := fun z => hm (by rw [z]; rfl)
        simp [this]
    show ∃ h t, TL.spl [44, 32] 0 acc (44 :: m) = h :: t ∧ 44 ∈ h
    rw [TL.spl_miss e]
    obtain ⟨h, t, e2, k⟩ := spl_hd [44, 32] m 0 (acc ++ [44])
    exact ⟨h, t, e2, k 44 (List.mem_append_right _ (List.mem_singleton.mpr rfl))⟩
  | c :: w, acc, m, hw, hm => by
    have e : TL.pre [44, 32] (c :: (w ++ 44 :: m)) = false := TL.pre_of_head _ _ fun z => hw (by rw [z]; exact List.mem_cons_self ..)
    show ∃ h t, TL.spl [44, 32] 0 acc (c :: (w ++ 44 :: m)) = h :: t ∧ 44 ∈ h
    rw [TL.spl_miss e]
    exact spl_comma w (acc ++ [c]) m (fun z => hw (List.mem_cons_of_mem _ z)) hm

theorem first_comma : ∀ L : List Nat, 44 ∈ L → ∃ w m, L = w ++ 44 :: m ∧ 44 ∉ w
  | [], h => by cases h
  | c :: r, h => by
    by_cases hc : c = 44
    · exact ⟨[], r, by rw [hc]; rfl, by simp⟩
    · obtain ⟨w, m, e, hw⟩ := first_comma r ((List.mem_cons.mp h).resolve_left fun z => hc z.symm)
      refine ⟨c :: w, m, by rw [e]; rfl, fun z => ?_⟩
      rcases List.mem_cons.mp z with z | z
      · exact hc z.symm
      · exact hw z
/-! ### the least number -/
theorem least_of (m : List Nat) : (∃ d l, m = d ++ E7 ∧ readFig (SX.S d) = some l ∧ l ≠ 0 ∧ readLeast (SX.S (44 :: 32 :: m)) = some l) ∨
    (readLeast (SX.S (44 :: 32 :: m)) = none ∧ ∀ d, m = d ++ E7 → readFig (SX.S d) = none ∨ readFig (SX.S d) = some 0) := by
  have hl : (SX.S (44 :: 32 :: m)).length = m.length + 2 := rfl
  have n0 : SX.S (44 :: 32 :: m) ≠ "" := fun e => by
    rw [str_eq_nil] at e
    omega
  have sw : Txt.startswith (SX.S (44 :: 32 :: m)) ", " = true := by
    show (decide (0 + 2 ≤ (SX.S (44 :: 32 :: m)).length) && Builtin.Str.subAt (SX.S (44 :: 32 :: m)) ", " 0) = true
    rw [decide_eq_true (by omega), PySem.StrLaws.subAt_eq, eSep]
    rfl
  have ew : Txt.endswith (SX.S (44 :: 32 :: m)) " people" = true ↔ ∃ d', 44 :: 32 :: m = d' ++ E7 := by
    show (decide (0 + 7 ≤ (SX.S (44 :: 32 :: m)).length) && Builtin.Str.subAt (SX.S (44 :: 32 :: m)) " people" ((SX.S (44 :: 32 :: m)).length - 7)) = true ↔ _
    rw [PySem.StrLaws.subAt_eq, e7]
    show (decide (0 + 7 ≤ m.length + 2) && (((44 :: 32 :: m).drop (m.length + 2 - 7)).take 7 == E7)) = true ↔ _
    constructor
    · intro h
      obtain ⟨h1, h2⟩ := Bool.and_eq_true_iff.mp h
      have h1 := of_decide_eq_true h1
      have h2 : ((44 :: 32 :: m).drop (m.length + 2 - 7)).take 7 = E7 := eq_of_beq h2
      rw [List.take_of_length_le (by rw [List.length_drop]; simp; omega)] at h2
      exact ⟨(44 :: 32 :: m).take (m.length + 2 - 7), by rw [← h2, List.take_append_drop]⟩
    · rintro ⟨d', e⟩
      have el := congrArg List.length e
      rw [List.length_append] at el
      simp only [List.length_cons, List.length_nil] at el
      have ed : m.length + 2 - 7 = d'.length := by omega
      rw [decide_eq_true (by omega), e, ed, List.drop_left]
      rfl
  have cut : ∀ d, m = d ++ E7 → cutS (SX.S (44 :: 32 :: m)) (some 2) (some (-7)) = SX.S d := fun d e => by
    refine TL.ext_tl ?_
    have a1 : HT.sIx (SX.S (44 :: 32 :: m)).length 0 (some 2) = 2 := by
      show (if (2 : Int) < 0 then ((2 : Int) + ((SX.S (44 :: 32 :: m)).length : Int)).toNat else min (2 : Int).toNat (SX.S (44 :: 32 :: m)).length) = 2
      rw [if_neg (by decide), hl]
      show min 2 (m.length + 2) = 2
      omega
    have a2 : HT.sIx (SX.S (44 :: 32 :: m)).length (SX.S (44 :: 32 :: m)).length (some (-7)) = d.length + 2 := by
      show (if (-7 : Int) < 0 then ((-7 : Int) + ((SX.S (44 :: 32 :: m)).length : Int)).toNat else min (-7 : Int).toNat (SX.S (44 :: 32 :: m)).length) = _
      rw [if_pos (by decide), hl, e, List.length_append]
      simp only [List.length_cons, List.length_nil]
      omega
    show (((44 :: 32 :: m).drop (HT.sIx (SX.S (44 :: 32 :: m)).length 0 (some 2))).take (HT.sIx (SX.S (44 :: 32 :: m)).length (SX.S (44 :: 32 :: m)).length (some (-7)) - HT.sIx (SX.S (44 :: 32 :: m)).length 0 (some 2))) = d
    rw [a1, a2, Nat.add_sub_cancel]
    show m.take d.length = d
    rw [e, List.take_left]
  by_cases hE : ∃ d', 44 :: 32 :: m = d' ++ E7
  · have ew' := ew.mpr hE
    obtain ⟨d', e⟩ := hE
    match d', e with
    | [], e => exact nomatch (List.cons.inj e).1
    | [x], e =>
      have em : m = [112, 101, 111, 112, 108, 101] := by
        have := (List.cons.inj e).2
        exact (List.cons.inj this).2
      subst em
      right
      constructor
      · unfold readLeast
        rw [if_neg n0, if_pos sw, if_pos ew']
        decide +kernel
      · intro d e2
        have := congrArg List.length e2
        rw [List.length_append] at this
        simp at this
    | x :: y :: d, e =>
      have em : m = d ++ E7 := (List.cons.inj (List.cons.inj e).2).2
      have ec := cut d em
      cases hf : readFig (SX.S d) with
      | none =>
        right
        refine ⟨?_, fun d2 e2 => .inl ?_⟩
        · unfold readLeast
          rw [if_neg n0, if_pos sw, if_pos ew', ec, hf]
          rfl
        · rw [app_end (e2.symm.trans em)]
          exact hf
      | some l =>
        by_cases h0 : l = 0
        · subst h0
          right
          refine ⟨?_, fun d2 e2 => .inr ?_⟩
          · unfold readLeast
            rw [if_neg n0, if_pos sw, if_pos ew', ec, hf, if_pos rfl]
          · rw [app_end (e2.symm.trans em)]
            exact hf
        · left
          refine ⟨d, l, em, hf, h0, ?_⟩
          unfold readLeast
          rw [if_neg n0, if_pos sw, if_pos ew', ec, hf, if_neg (fun z => h0 (Option.some.inj z))]
  · right
    have ew' : ¬ Txt.endswith (SX.S (44 :: 32 :: m)) " people" = true := fun z => hE (ew.mp z)
    refine ⟨?_, fun d e => (hE ⟨44 :: 32 :: d, by rw [e]; rfl⟩).elim⟩
    unfold readLeast
    rw [if_neg n0, if_pos sw, if_neg ew']

/-! ### the whole look -/
def lawRest (nm : Str) (parts : List Str) : Option (Str × Tm × Int) :=
  match lawTerm (parts.getD 0 "") with
  | none => none
  | some t => if 2 < parts.length then none else if parts.length = 2 then
      (match readFig (cutS (parts.getD 1 "") none (some (-7))) with
      | none => none
      | some l => if cutS (parts.getD 1 "") (some (-7)) none ≠ " people" ∨ l < 1 ∨ 1000 < l then none else some (nm, t, l))
    else some (nm, t, 0)
def lawDue (z : Str) : Option (Str × Tm × Int) :=
  if Txt.find z ": " < 0 then none else
  if isNmS (cutS z none (some (Txt.find z ": "))) = true then lawRest (cutS z none (some (Txt.find z ": "))) (Txt.split (cutS z (some (Txt.find z ": " + 2)) none) ", ") else none
/-- the program's reading of what stands behind the name -/
theorem rest_same (nm : Str) (R : Str) : lawRest nm (Txt.split R ", ") = okK nm (readTerm (Txt.partition R ",").1) (readLeast ((Txt.partition R ",").2.1 ++ (Txt.partition R ",").2.2)) := by
  have hS : Txt.split R ", " = (TL.spl [44, 32] 0 [] R.cps.toList).map SX.S := by
    have e := SX.split_S (a := R.cps.toList) (b := [44, 32]) (by simp) (by decide)
    rw [SX.S_tl] at e
    exact e
  have ok0 : ∀ (y : Str) (l : Int), okK nm (readTerm y) (some l) = (match lawTerm y with | none => none | some t => if (decide (0 ≤ l) && decide (l ≤ 1000)) = true then some (nm, t, l) else none) := fun y l => by
    rw [term_same]
    cases readTerm y with
    | none => rfl
    | some t =>
      show (if (tmOk t && (decide (0 ≤ l) && decide (l ≤ 1000))) = true then some (nm, t, l) else none) = (match (if tmOk t = true then some t else none) with | none => none | some t => _)
      cases tmOk t
      · rfl
      · simp
  have okN : ∀ y : Str, okK nm (readTerm y) none = none := fun y => by cases readTerm y <;> rfl
  by_cases hc : (44 : Nat) ∈ R.cps.toList
  · obtain ⟨w, m, eR, hw⟩ := first_comma _ hc
    have eP : Txt.partition R "," = (SX.S w, (",": Str), SX.S m) := by
      have e1 : R = SX.S w ++ "," ++ SX.S m := TL.ext_tl (by
        rw [TL.tl_append, TL.tl_append]
        show R.cps.toList = (w ++ [44]) ++ m
        rw [eR, List.append_assoc]
        rfl)
      rw [e1]
      exact TL.partition_app (s := 44) (S := []) (by decide +kernel) hw
    have eL : ((",": Str) ++ SX.S m) = SX.S (44 :: m) := TL.ext_tl (by
      rw [TL.tl_append]
      show ("," : Str).cps.toList ++ m = 44 :: m
      rw [show ("," : Str).cps.toList = [44] by decide +kernel]
      rfl)
    rw [eP]
    show _ = okK nm (readTerm (SX.S w)) (readLeast ((",": Str) ++ SX.S m))
    rw [eL]
    by_cases hm : m.head? = some 32
    · obtain ⟨m', rfl⟩ : ∃ m', m = 32 :: m' := by
        cases m with
        | nil => cases hm
        | cons c r => exact ⟨r, by rw [Option.some.inj hm]⟩
      have eS : TL.spl [44, 32] 0 [] R.cps.toList = w :: TL.spl [44, 32] 0 [] m' := by
        rw [eR]
        exact TL.spl_part1 (s := 44) (S := [32]) (p := w) (rest := m') (acc := []) hw
      rw [hS, eS]
      obtain ⟨h, t, e2, _⟩ := spl_hd [44, 32] m' 0 []
      rw [e2]
      cases t with
      | nil =>
        have eh := spl_one _ _ _ _ e2
        rw [List.nil_append] at eh
        subst eh
        show (match lawTerm (SX.S w) with | none => none | some t => (match readFig (cutS (SX.S h) none (some (-7))) with | none => none | some l => if cutS (SX.S h) (some (-7)) none ≠ " people" ∨ l < 1 ∨ 1000 < l then none else some (nm, t, l))) = _
        rcases ends7 (SX.S h) with ⟨c, e⟩ | ⟨c, e⟩
        · have c : cutS (SX.S h) (some (-7)) none = " people" := c
          have e : h = (cutS (SX.S h) none (some (-7))).cps.toList ++ E7 := e
          rcases least_of h with ⟨d, l, e3, hf, l0, er⟩ | ⟨er, hn⟩
          · have ed := app_end (e.symm.trans e3)
            have hf' : readFig (cutS (SX.S h) none (some (-7))) = some l := by rw [← hf, ← ed, SX.S_tl]
            have lp := (fig_digits hf).2
            rw [er, ok0, hf', c]
            cases lawTerm (SX.S w) with
            | none => rfl
            | some t =>
              show (if (" people" : Str) ≠ " people" ∨ l < 1 ∨ 1000 < l then none else some (nm, t, l)) = if (decide (0 ≤ l) && decide (l ≤ 1000)) = true then some (nm, t, l) else none
              by_cases c3 : 1000 < l
              · rw [if_pos (.inr (.inr c3)), if_neg (by simp; omega)]
              · rw [if_neg (by simp; omega), if_pos (by simp; omega)]
          · rw [er, okN]
            have := hn _ e
            rw [SX.S_tl] at this
            cases lawTerm (SX.S w) with
            | none => rfl
            | some t =>
              rcases this with z | z
              · rw [z]
              · rw [z]
                show (if cutS (SX.S h) (some (-7)) none ≠ " people" ∨ (0 : Int) < 1 ∨ (1000 : Int) < 0 then none else some (nm, t, (0 : Int))) = none
                rw [if_pos (.inr (.inl (by decide)))]
        · have c : cutS (SX.S h) (some (-7)) none ≠ " people" := c
          rcases least_of h with ⟨d, l, e3, _⟩ | ⟨er, hn⟩
          · exact (e d e3).elim
          · rw [er, okN]
            cases lawTerm (SX.S w) with
            | none => rfl
            | some t =>
              cases readFig (cutS (SX.S h) none (some (-7))) with
              | none => rfl
              | some l =>
                show (if cutS (SX.S h) (some (-7)) none ≠ " people" ∨ l < 1 ∨ 1000 < l then none else some (nm, t, l)) = none
                rw [if_pos (.inl c)]
      | cons h2 t2 =>
        have big : lawRest nm ((w :: h :: h2 :: t2).map SX.S) = none := by
          unfold lawRest
          cases lawTerm (((w :: h :: h2 :: t2).map SX.S).getD 0 "") with
          | none => rfl
          | some t =>
            show (if 2 < ((w :: h :: h2 :: t2).map SX.S).length then none else _) = none
            rw [if_pos (by simp)]
        rw [big]
        rcases least_of m' with ⟨d, l, e3, hf, _, _⟩ | ⟨er, _⟩
        · -- figures and the last word have no comma
          have nf : (44 : Nat) ∉ m' := by
            rw [e3]
            intro z
            rcases List.mem_append.mp z with z | z
            · exact fig_free hf (by decide) z
            · exact absurd z (by decide)
          have := TL.spl_last1 (s := 44) (S := [32]) (acc := []) nf
          rw [e2] at this
          exact nomatch (List.cons.inj this).2
        · rw [er, okN]
    · obtain ⟨h, t, e2, h44⟩ := spl_comma w [] m hw hm
      rw [hS, eR, e2]
      have en : lawTerm (SX.S h) = none := by
        cases hq : lawTerm (SX.S h) with
        | none => rfl
        | some t => exact (term_free hq h44).elim
      have el : readLeast (SX.S (44 :: m)) = none := by
        unfold readLeast
        rw [if_neg (fun e => by rw [str_eq_nil] at e; cases e), if_neg]
        intro z
        have z : (decide (0 + 2 ≤ (SX.S (44 :: m)).length) && Builtin.Str.subAt (SX.S (44 :: m)) ", " 0) = true := z
        have z2 := (Bool.and_eq_true_iff.mp z).2
        rw [PySem.StrLaws.subAt_eq, eSep] at z2
        have z3 : ((44 :: m).drop 0).take 2 = [44, 32] := eq_of_beq z2
        cases m with
        | nil => cases z3
        | cons c r =>
          have : c = 32 := (List.cons.inj (List.cons.inj z3).2).1
          exact hm (by rw [this]; rfl)
      rw [el, okN]
      show (match lawTerm (SX.S h) with | none => none | some t => _) = none
      rw [en]
  · have eP : Txt.partition R "," = (R, Str.empty, Str.empty) := TL.partition_none (s := 44) (S := []) (by decide +kernel) hc
    have eS := TL.spl_last1 (s := 44) (S := [32]) (acc := []) hc
    rw [hS, eS, eP]
    show lawRest nm [SX.S R.cps.toList] = okK nm (readTerm R) (readLeast (Str.empty ++ Str.empty))
    have e0 : readLeast (Str.empty ++ Str.empty) = some 0 := by decide +kernel
    rw [e0, ok0, SX.S_tl]
    rfl
theorem due_same (z : Str) : lawDue z = readKind z := by
  unfold lawDue readKind rTerm rLeast
  rcases PyProof.Rows.find_whole z ": " with ⟨ef, hn⟩ | ⟨i, ef, hi, hn⟩
  · rw [ef, if_pos (by decide)]
    rcases PyProof.Rows.partition_whole z ": " with ⟨ep, _⟩ | ⟨j, _, hj, _⟩
    · rw [ep]
      have e1 : readTerm (Txt.partition (Str.empty) ",").1 = none := by decide +kernel
      show none = if isNmS z = true then okK z (readTerm (Txt.partition Str.empty ",").1) _ else none
      rw [e1]
      split <;> rfl
    · exact (hn j hj).elim
  · rw [ef, if_neg (by omega)]
    rcases PyProof.Rows.partition_whole z ": " with ⟨_, hn2⟩ | ⟨j, ep, hj, hn2⟩
    · exact (hn2 i hi).elim
    · have eij : i = j := by
        rcases Nat.lt_trichotomy i j with h | h | h
        · exact (hn2 i h hi).elim
        · exact h
        · exact (hn j h hj).elim
      subst eij
      have il : i + 2 ≤ z.length := hi.1
      have hz : z.length = z.cps.toList.length := TL.len_tl z
      have c1 : cutS z none (some (i : Int)) = Builtin.Str.strSub z 0 i := TL.ext_tl (by
        rw [TL.tl_strSub]
        show ((z.cps.toList.drop 0).take (HT.sIx z.length z.length (some (i : Int)) - 0)) = _
        rw [HT.sIx_nat, Nat.min_eq_left (by omega)])
      have c2 : cutS z (some ((i : Int) + 2)) none = Builtin.Str.strSub z (i + 2) z.length := TL.ext_tl (by
        rw [TL.tl_strSub_end]
        have e2 : ((i : Int) + 2) = ((i + 2 : Nat) : Int) := by omega
        rw [e2]
        show ((z.cps.toList.drop (HT.sIx z.length 0 (some ((i + 2 : Nat) : Int)))).take (z.length - HT.sIx z.length 0 (some ((i + 2 : Nat) : Int)))) = _
        rw [HT.sIx_nat, Nat.min_eq_left (by omega)]
        exact List.take_of_length_le (by rw [List.length_drop]; omega))
      rw [c1, c2, ep, rest_same]
      rfl
end G15

set_option Elab.async false
set_option linter.all false
set_option maxRecDepth 100000
set_option maxHeartbeats 4000000
/-! Promises of law k15. -/
namespace G15
open PySem PyProof.Rows L2 U G
abbrev mFind : RM := fun x xs H Q => ∃ a b, x = .str a ∧ xs = [.str b] ∧ Q (.int (Txt.find a b)) H
/-- a kind's three parts as a tuple, or None -/
def OKd (K : PySem.W.Frag) (H : Hp) (v : V) : Option (Str × Tm × Int) → Prop
  | none => v = .non
  | some (x, t, l) => ∃ a vt, v = .ref a ∧ SqT K H a [.str x, vt, .int l] ∧ TmAt K H vt t
theorem OKd.same {K : PySem.W.Frag} {H H' : Hp} {v : V} {o : Option (Str × Tm × Int)} (s : Same H H') (h : OKd K H v o) : OKd K H' v o := by
  match o, h with
  | none, h => exact h
  | some (x, t, l), ⟨a, vt, e, h1, h2⟩ => exact ⟨a, vt, e, Same.seqT s h1, h2.same s⟩
def readV : V → Option (Str × Tm × Int)
  | .str z => readKind z
  | _ => none
def sp__law_figures (K : PySem.W.Frag) : Sp := fun vs H Q _ => match vs with
  | [.str z] => TxOk z ∧ ∀ H', Same H H' → Q (optV (readFig z)) H'
  | _ => False
def sp__law_term (K : PySem.W.Frag) : Sp := fun vs H Q _ => match vs with
  | [.str z] => TxOk z ∧ ∀ v H', OTm K H' v (lawTerm z) → Same H H' → Q v H'
  | _ => False
def sp__law_due (K : PySem.W.Frag) : Sp := fun vs H Q _ => match vs with
  | [.str z] => TxOk z ∧ ∀ v H', OKd K H' v (readKind z) → Same H H' → Q v H'
  | _ => False
def sp__law_text (K : PySem.W.Frag) : Sp := fun vs H Q _ => match vs with
  | [.ref p] => PotAt H p ∧ ∀ z H', TxOk z → z.length ≤ 100 → PotAt H' p → Keep [p] H H' → Q (.str z) H'
  | _ => False
def sp__law_spoiled (K : PySem.W.Frag) : Sp := fun vs H Q _ => match vs with
  | [.str z, .ref p] => TxOk z ∧ z.length ≤ 1000 ∧ PotAt H p ∧ ∀ y H', TxOk y → y.length ≤ z.length + 20 → PotAt H' p → Keep [p] H H' → Q (.str y) H'
  | _ => False
def sp__law_any (K : PySem.W.Frag) : Sp := fun vs H Q _ => match vs with
  | [.ref p] => PotAt H p ∧ ∀ v H', PotAt H' p → Kn K (off p H') v → Keep [p] H H' → Q v H'
  | _ => False
def sp__law_told (K : PySem.W.Frag) : Sp := fun vs H Q _ => match vs with
  | [v] => ErrK K ∧ Kn K H v ∧ ∀ r H', OKd K H' r (readV v) → Same H H' → Q r H'
  | _ => False
def sp_law (K : PySem.W.Frag) : Sp := fun vs H Q _ => match vs with
  | [.ref a] => ErrK K ∧ ∃ ns : List Int, SqL K H a (ns.map V.int) ∧ ns.length ≤ 63 ∧ ∀ H', Q (.bl true) H'
  | _ => False
end G15

set_option Elab.async false
set_option linter.all false
set_option maxRecDepth 100000
set_option maxHeartbeats 4000000

/-! Readings, printed by gen.py. -/
namespace G15
open PySem PySem.Spec PyProof.Rows L2 U G
abbrev N__law_spoiled : List Str := ["_law_text_here", "_law_pot_here", "_law_at", "_law_sign", "_law_way", "_law_word_here"]
def t__law_spoiled (K : PySem.W.Frag) : TS :=
  (tSeq (tAsg (tCl (sp__law_draw K) [] ES0 (tCons (tVar 1) (tCons (tOp rAddI (tCB rLenStr (tCons (tVar 0) tNil)) (tC (.int 1))) tNil))) (gName 2))
  (tSeq (tAsg (tOp rIxS (tC (.str "0159,: adsA\n-+_")) (tCl (sp__law_draw K) [] ES0 (tCons (tVar 1) (tCons (tC (.int 15)) tNil)))) (gName 3))
  (tSeq (tAsg (tCl (sp__law_draw K) [] ES0 (tCons (tVar 1) (tCons (tC (.int 4)) tNil))) (gName 4))
  (tSeq (tIfS (tTest (tOp rEq (tVar 4) (tC (.int 0)))) (tRet (tOp rAddS (tOp rAddS (tSl rSlS (tVar 0) tNoPart (tPart (tVar 2))) (tVar 3)) (tSl rSlS (tVar 0) (tPart (tVar 2)) tNoPart))) tNext)
  (tSeq (tIfS (tTest (tOp rEq (tVar 4) (tC (.int 1)))) (tRet (tOp rAddS (tSl rSlS (tVar 0) tNoPart (tPart (tVar 2))) (tSl rSlS (tVar 0) (tPart (tOp rAddI (tVar 2) (tC (.int 1)))) tNoPart))) tNext)
  (tSeq (tIfS (tTest (tOp rEq (tVar 4) (tC (.int 2)))) (tRet (tOp rAddS (tOp rAddS (tSl rSlS (tVar 0) tNoPart (tPart (tVar 2))) (tVar 3)) (tSl rSlS (tVar 0) (tPart (tOp rAddI (tVar 2) (tC (.int 1)))) tNoPart))) tNext)
  (tSeq (tAsg (tOp (rIxL K) (tLst (tCons (tC (.str " days")) (tCons (tC (.str " after")) (tCons (tC (.str ", ")) (tCons (tC (.str ": ")) (tCons (tC (.str "ever")) (tCons (tC (.str "days")) (tCons (tC (.str " people")) (tCons (tC (.str ", 2 people")) (tCons (tC (.str "0")) tNil)))))))))) (tCl (sp__law_draw K) [] ES0 (tCons (tVar 1) (tCons (tC (.int 9)) tNil)))) (gName 5))
  (tRet (tOp rAddS (tOp rAddS (tSl rSlS (tVar 0) tNoPart (tPart (tVar 2))) (tVar 5)) (tSl rSlS (tVar 0) (tPart (tVar 2)) tNoPart))))))))))
abbrev N__law_text : List Str := ["_law_pot_here", "_law_number", "_law_least", "_law_term_here"]
def t__law_text (K : PySem.W.Frag) : TS :=
  (tSeq (tAsg (tCl (sp__law_draw K) [] ES0 (tCons (tVar 0) (tCons (tOp (rIxL K) (tLst (tCons (tC (.int 10)) (tCons (tC (.int 100003)) tNil))) (tCl (sp__law_draw K) [] ES0 (tCons (tVar 0) (tCons (tC (.int 2)) tNil)))) tNil))) (gName 1))
  (tSeq (tAsg (tCl (sp__law_draw K) [] ES0 (tCons (tVar 0) (tCons (tOp (rIxL K) (tLst (tCons (tC (.int 10)) (tCons (tC (.int 1003)) tNil))) (tCl (sp__law_draw K) [] ES0 (tCons (tVar 0) (tCons (tC (.int 2)) tNil)))) tNil))) (gName 2))
  (tSeq (tAsg (tOp (rIxL K) (tLst (tCons (tC (.str "ever")) (tCons (tOp rAddS (tCB rStrInt (tCons (tVar 1) tNil)) (tC (.str " days"))) (tCons (tOp rAddS (tCB rStrInt (tCons (tVar 1) tNil)) (tC (.str " days after"))) tNil)))) (tCl (sp__law_draw K) [] ES0 (tCons (tVar 0) (tCons (tC (.int 3)) tNil)))) (gName 3))
  (tRet (tOp rAddS (tOp rAddS (tOp rAddS (tCl (sp__law_word K) [] ES0 (tCons (tVar 0) tNil)) (tC (.str ": "))) (tVar 3)) (tOp (rIxL K) (tLst (tCons (tC (.str "")) (tCons (tOp rAddS (tOp rAddS (tC (.str ", ")) (tCB rStrInt (tCons (tVar 2) tNil))) (tC (.str " people"))) tNil))) (tCl (sp__law_draw K) [] ES0 (tCons (tVar 0) (tCons (tC (.int 2)) tNil)))))))))
abbrev N__law_any : List Str := ["_law_pot_here", "_law_way", "_law_words", "_law_text_here", "_law_turn", "_law_k"]
def t__law_any (K : PySem.W.Frag) : TS :=
  (tSeq (tAsg (tCl (sp__law_draw K) [] ES0 (tCons (tVar 0) (tCons (tC (.int 8)) tNil))) (gName 1))
  (tSeq (tIfS (tTest (tOp rEq (tVar 1) (tC (.int 0)))) (tRet (tOp (rIxL K) (tLst (tCons (tC .non) (tCons (tC (.int 7)) (tCons (tC (.bl true)) (tCons (tLst tNil) (tCons (tTup (tCons (tC (.str "a: ever")) tNil)) (tCons (tC (.str "")) (tCons (tLst (tCons (tC (.str "a: ever")) tNil)) (tCons tDNewK tNil))))))))) (tCl (sp__law_draw K) [] ES0 (tCons (tVar 0) (tCons (tC (.int 8)) tNil))))) tNext)
  (tSeq (tIfS (tTest (tOp rEq (tVar 1) (tC (.int 1)))) (tSeq (tAsg (tLst (tCons (tC (.str "a")) (tCons (tC (.str ": ")) (tCons (tC (.str "ever")) (tCons (tC (.str "3")) (tCons (tC (.str " days")) (tCons (tC (.str " after")) (tCons (tC (.str ", ")) (tCons (tC (.str " people")) (tCons (tC (.str "0")) (tCons (tC (.str " ")) tNil))))))))))) (gName 2))
  (tRet (tM1 (mJoin K) (tC (.str "")) (tLc (iRng1 (tCons (tCl (sp__law_draw K) [] ES0 (tCons (tVar 0) (tCons (tC (.int 9)) tNil))) tNil)) (gName 5) tYes (tOp (rIxL K) (tVar 2) (tCl (sp__law_draw K) [] ES0 (tCons (tVar 0) (tCons (tC (.int 10)) tNil)))) [5])))) tNext)
  (tSeq (tAsg (tCl (sp__law_text K) [] ES0 (tCons (tVar 0) tNil)) (gName 3))
  (tSeq (tFor (iRng1 (tCons (tCl (sp__law_draw K) [] ES0 (tCons (tVar 0) (tCons (tC (.int 4)) tNil))) tNil)) (gName 4) (tAsg (tCl (sp__law_spoiled K) [] ES0 (tCons (tVar 3) (tCons (tVar 0) tNil))) (gName 3)))
  (tRet (tVar 3)))))))
abbrev N__law_figures : List Str := ["_law_text_here", "_law_sign"]
def t__law_figures (K : PySem.W.Frag) : TS :=
  (tSeq (tIfS (tOr (tTest (tOp rEq (tVar 0) (tC (.str "")))) (tOr (tTest (tOp rGtI (tCB rLenStr (tCons (tVar 0) tNil)) (tC (.int 6)))) (tTest (tOp (rNeD K) (tLc (iStr (tVar 0)) (gName 1) (tTest (tOp rNiSg (tVar 1) (tC (.str "0123456789")))) (tVar 1) [1]) (tLst tNil))))) (tRet (tC .non)) tNext)
  (tSeq (tIfS (tAnd (tTest (tOp rEq (tOp rIxS (tVar 0) (tC (.int 0))) (tC (.str "0")))) (tTest (tOp rGtI (tCB rLenStr (tCons (tVar 0) tNil)) (tC (.int 1))))) (tRet (tC .non)) tNext)
  (tRet (tCB rIntStr (tCons (tVar 0) tNil)))))
abbrev N__law_term : List Str := ["_law_text_here", "_law_end", "_law_word_here", "_law_least", "_law_number"]
def t__law_term (K : PySem.W.Frag) : TS :=
  (tSeq (tIfS (tTest (tOp rEq (tVar 0) (tC (.str "ever")))) (tRet (tTup (tCons (tC (.str "ever")) tNil))) tNext)
  (tSeq (tFor (iList K (tLst (tCons (tTup (tCons (tC (.str " days after")) (tCons (tC (.str "after")) (tCons (tC (.int 0)) tNil)))) (tCons (tTup (tCons (tC (.str " days")) (tCons (tC (.str "days")) (tCons (tC (.int 1)) tNil)))) tNil)))) (gTup K 3 (gCons (gName 1) (gCons (gName 2) (gCons (gName 3) gNil)))) (tIfS (tTest (tOp rEq (tSl rSlS (tVar 0) (tPart (tUn (rU fun i => .int (-i)) (tCB rLenStr (tCons (tVar 1) tNil)))) tNoPart) (tVar 1))) (tSeq (tAsg (tCl (sp__law_figures K) [] ES0 (tCons (tSl rSlS (tVar 0) tNoPart (tPart (tUn (rU fun i => .int (-i)) (tCB rLenStr (tCons (tVar 1) tNil))))) tNil)) (gName 4))
  (tSeq (tIfS (tOr (tTest (tOp rIsNn (tVar 4) (tC .non))) (tOr (tTest (tOp rLtI (tVar 4) (tVar 3))) (tTest (tOp rGtI (tVar 4) (tC (.int 100000)))))) (tRet (tC .non)) tNext)
  (tRet (tTup (tCons (tVar 2) (tCons (tVar 4) tNil)))))) tNext))
  (tRet (tC .non))))
abbrev N__law_due : List Str := ["_law_text_here", "_law_at", "_law_parts", "_law_term_here", "_law_least"]
def t__law_due (K : PySem.W.Frag) : TS :=
  (tSeq (tAsg (tM1 mFind (tVar 0) (tC (.str ": "))) (gName 1))
  (tSeq (tAsg (tM1 mSplit (tSl rSlS (tVar 0) (tPart (tOp rAddI (tVar 1) (tC (.int 2)))) tNoPart) (tC (.str ", "))) (gName 2))
  (tSeq (tAsg (tCl (sp__law_term K) [] ES0 (tCons (tOp (rIxL K) (tVar 2) (tC (.int 0))) tNil)) (gName 3))
  (tSeq (tAsg (tC (.int 0)) (gName 4))
  (tSeq (tIfS (tOr (tTest (tOp rLtI (tVar 1) (tC (.int 0)))) (tOr (tNot (tB (tCl (sp__law_is_name K) [] ES0 (tCons (tSl rSlS (tVar 0) tNoPart (tPart (tVar 1))) tNil)))) (tOr (tTest (tOp rIsNn (tVar 3) (tC .non))) (tTest (tOp rGtI (tCB (rLenSeq K) (tCons (tVar 2) tNil)) (tC (.int 2))))))) (tRet (tC .non)) tNext)
  (tSeq (tIfS (tTest (tOp rEq (tCB (rLenSeq K) (tCons (tVar 2) tNil)) (tC (.int 2)))) (tSeq (tAsg (tCl (sp__law_figures K) [] ES0 (tCons (tSl rSlS (tOp (rIxL K) (tVar 2) (tC (.int 1))) tNoPart (tPart (tUn (rU fun i => .int (-i)) (tC (.int 7))))) tNil)) (gName 4))
  (tIfS (tOr (tTest (tOp rNe (tSl rSlS (tOp (rIxL K) (tVar 2) (tC (.int 1))) (tPart (tUn (rU fun i => .int (-i)) (tC (.int 7)))) tNoPart) (tC (.str " people")))) (tOr (tTest (tOp rIsNn (tVar 4) (tC .non))) (tOr (tTest (tOp rLtI (tVar 4) (tC (.int 1)))) (tTest (tOp rGtI (tVar 4) (tC (.int 1000))))))) (tRet (tC .non)) tNext)) tNext)
  (tRet (tTup (tCons (tSl rSlS (tVar 0) tNoPart (tPart (tVar 1))) (tCons (tVar 3) (tCons (tVar 4) tNil)))))))))))
abbrev N__law_told : List Str := ["_law_text_here", "_law_found", "_law_kind", "e", "_law_others"]
def t__law_told (K : PySem.W.Frag) : TS :=
  (tSeq (tAsg (tC (.str "other")) (gName 1))
  (tSeq (tTryE K (.ref (He.ga K "HallError")) 3 (fun W => (tAsg (tCl (sp_read_kind K) [] (WE W) (tCons (tVar 0) tNil)) (gName 2))) (fun ea cls ed => (tSeq (tAsg (tCB (rIsXT K ea cls ed) (tCons (tVar 3) (tCons (tTup (tCons (tC (.ref (He.ga K "Answered"))) (tCons (tC (.ref (He.ga K "BadKind"))) (tCons (tC (.ref (He.ga K "NoAnswer"))) (tCons (tC (.ref (He.ga K "NoDay"))) (tCons (tC (.ref (He.ga K "NoHold"))) (tCons (tC (.ref (He.ga K "NoKind"))) (tCons (tC (.ref (He.ga K "NoMatter"))) (tCons (tC (.ref (He.ga K "NoName"))) (tCons (tC (.ref (He.ga K "NoPerson"))) tNil)))))))))) tNil))) (gName 4))
  (tSeq (tAsg (tOrV (tVar 4) (tCB (rIsXT K ea cls ed) (tCons (tVar 3) (tCons (tTup (tCons (tC (.ref (He.ga K "NoRows"))) (tCons (tC (.ref (He.ga K "NoTelling"))) (tCons (tC (.ref (He.ga K "NoThing"))) (tCons (tC (.ref (He.ga K "NoWay"))) (tCons (tC (.ref (He.ga K "Taken"))) tNil)))))) tNil)))) (gName 4))
  (tIfS (tAnd (tB (tCB (rIsX K ea cls ed) (tCons (tVar 3) (tCons (tC (.ref (He.ga K "NoText"))) tNil)))) (tAnd (tB (tCB (rIsX K ea cls ed) (tCons (tVar 3) (tCons (tC (.ty "ValueError")) tNil)))) (tNot (tB (tVar 4))))) (tAsg (tC .non) (gName 1)) tNext)))) (fun _ _ _ _ => False) (tAsg (tTup (tCons (tFd (He.ga K "Kind") (tVar 2) "name") (tCons (tFd (He.ga K "Kind") (tVar 2) "term") (tCons (tFd (He.ga K "Kind") (tVar 2) "least") tNil)))) (gName 1)))
  (tRet (tVar 1))))
abbrev N_law : List Str := ["_law_script", "_law_cell_here", "_law_thing", "_law_due_here"]
def t_law (K : PySem.W.Frag) : TS :=
  (tSeq (tFor (iList K (tSl (rSlL K) (tVar 0) tNoPart (tPart (tC (.int 40))))) (gName 1) (tSeq (tAsg (tCl (sp__law_any K) [] ES0 (tCons (tCl (sp__law_pot K) [] ES0 (tCons (tVar 1) tNil)) tNil)) (gName 2))
  (tSeq (tAsg (tC .non) (gName 3))
  (tSeq (tIfS (tB (tCB (rIsi K) (tCons (tVar 2) (tCons (tC (.ty "str")) tNil)))) (tAsg (tCl (sp__law_due K) [] ES0 (tCons (tVar 2) tNil)) (gName 3)) tNext)
  (tIfS (tOr (tTest (tOp (rNeD K) (tCl (sp__law_told K) [] ES0 (tCons (tVar 2) tNil)) (tVar 3))) (tTest (tOp (rNeD K) (tCl (sp__law_told K) [] ES0 (tCons (tVar 2) tNil)) (tVar 3)))) (tRet (tC (.bl false))) tNext)))))
  (tRet (tAndV (tOp rIsNn (tCl (sp__law_told K) [] ES0 (tCons (tC (.str "")) tNil)) (tC .non)) (tOp (rEqD K) (tCl (sp__law_told K) [] ES0 (tCons (tC (.str "a: ever, 1 people")) tNil)) (tTup (tCons (tC (.str "a")) (tCons (tTup (tCons (tC (.str "ever")) tNil)) (tCons (tC (.int 1)) tNil))))))))
end G15

set_option Elab.async false
set_option linter.all false
set_option maxRecDepth 100000
set_option maxHeartbeats 4000000
/-! The readings of law k15 keep their promises. -/
namespace G15
open PySem PyProof.Rows L2 U G
variable {K : PySem.W.Frag}
theorem potNe {H : Hp} {p q : Addr} (h : PotAt H p) (n : H q = none) : p ≠ q := by
  obtain ⟨a, b, e, _⟩ := h
  exact ne_of_none e n
theorem potSame {H H' : Hp} {p : Addr} (h : PotAt H p) (s : Same H H') : PotAt H' p := h.keep (l := []) (.same s) (by simp)
theorem ifNe {a b : Int} {A B : Prop} (h : a ≠ b) (hb : B) : if decide (V.int a = V.int b) = true then A else B := by
  rw [decide_eq_false fun e => h (V.int.inj e)]
  exact iteF hb
theorem ifEq {a b : Int} {A B : Prop} (h : a = b) (ha : A) : if decide (V.int a = V.int b) = true then A else B := by
  rw [decide_eq_true (by rw [h])]
  exact iteT ha
theorem szOk {z : Str} (h : TxOk z) : z.length ≤ sizeLine := Nat.le_trans h.len (by decide)

/-! ### figures -/
theorem pure__law_figures (vs : List V) (H : Hp) (Q : VK) (E : XK) (h : sp__law_figures K vs H Q E) : t__law_figures K { nx := fun _ H' => Q .non H', rt := Q } (start N__law_figures vs) H := by
  unfold sp__law_figures at h
  split at h
  · rename_i z
    obtain ⟨tx, k⟩ := h
    refine ⟨_, rfl, rfl, _, rfl, ?_⟩
    by_cases h0 : z = ""
    · subst h0
      exact iteT (iteT (k H (Same.refl H)))
    rw [decide_eq_false (fun e => h0 (V.str.inj e))]
    refine iteF ⟨_, rfl, z, rfl, szOk tx, _, _, rfl, rfl, _, rfl, ?_⟩
    have hz : z.length ≠ 0 := fun e => h0 (str_eq_nil.mpr e)
    by_cases h6 : (6 : Int) < z.length
    · rw [decide_eq_true h6]
      have e1 : readFig z = none := by
        unfold readFig figOk
        rw [decide_eq_false (show ¬ z.length ≤ 6 by omega)]
        simp
      have e2 := k H (Same.refl H)
      rw [e1] at e2
      exact iteT (iteT e2)
    rw [decide_eq_false h6]
    refine iteF ⟨_, rfl, z, rfl, fun D hD => ?_⟩
    refine lcs_fm (fun c => !decide (c ∈ figs.cps.toList)) (fun c => V.str ⟨#[c]⟩) (show z.length ≤ 1000000 from Nat.le_trans tx.len (by decide)) (fun c acc R _ r => ⟨_, rfl, c, _, rfl, rfl, _, rfl, r⟩) (fun c acc R _ _ r => ⟨_, rfl, r⟩) ⟨Nat.zero_le _, fun L hL => ?_⟩
    have nDL : D ≠ L := fun e => by
      rw [← e, upd_same] at hL
      cases hL
    have k2 := k _ ((same_new (o := HO.lst ((z.cps.toList.filter fun c => !decide (c ∈ figs.cps.toList)).map fun c => V.str ⟨#[c]⟩)) hD).new (o := HO.lst []) hL)
    refine ⟨.list ((((z.cps.toList.filter fun c => !decide (c ∈ figs.cps.toList)).map fun c => (⟨#[c]⟩ : Str))).map PyData.str), .list [], .lst (SqL.of (xs := ((z.cps.toList.filter fun c => !decide (c ∈ figs.cps.toList)).map fun c => (⟨#[c]⟩ : Str)).map V.str) ?_) (dpAll_strs _), .lst (SqL.of upd_same) .nil, shaped_strs ?_, rfl, _, rfl, ?_⟩
    · rw [upd_ne nDL, upd_same, List.map_map]
      rfl
    · intro y hy c hc
      obtain ⟨c', hc', rfl⟩ := List.mem_map.mp hy
      have e : c = c' := by simpa using hc
      rw [e]
      exact tx.ok c' (List.mem_filter.mp hc').1
    rw [eqv_nil]
    have e1 : (List.map PyData.str ((z.cps.toList.filter fun c => !decide (c ∈ figs.cps.toList)).map fun c => (⟨#[c]⟩ : Str))).isEmpty = figOk z := by
      unfold figOk
      rw [decide_eq_true (show 1 ≤ z.length by omega), decide_eq_true (show z.length ≤ 6 by omega), Bool.true_and, Bool.true_and]
      rw [Bool.eq_iff_iff, List.isEmpty_iff, List.map_eq_nil_iff, List.map_eq_nil_iff, List.filter_eq_nil_iff, List.all_eq_true]
      simp
    rw [e1]
    cases hf : figOk z
    · have e2 : readFig z = none := by
        unfold readFig
        rw [hf]
        rfl
      rw [e2] at k2
      exact iteT k2
    refine iteF ?_
    have hzl : 0 < z.cps.toList.length := by
      have := TL.len_tl z
      unfold TL.tl at this
      omega
    have hat : atI z.cps.toList 0 = some z.cps.toList[0] := atI_nat (j := 0) (List.getElem?_eq_getElem hzl)
    refine ⟨_, rfl, z, _, _, rfl, rfl, szOk tx, hat, rfl, _, rfl, ?_⟩
    have fin : (¬ (atI z.cps.toList 0 = some 48 ∧ z ≠ "0")) → (tRet (tCB rIntStr (tCons (tVar 0) tNil))) { nx := fun _ H' => Q .non H', rt := Q } (start N__law_figures [V.str z]) (upd (upd H D (.lst ((z.cps.toList.filter fun c => !decide (c ∈ figs.cps.toList)).map fun c => V.str ⟨#[c]⟩))) L (.lst [])) := fun hn => by
      refine ⟨_, rfl, z, _, rfl, fig_int hf, by have := (figOk_digits hf).2.2; omega, ?_⟩
      have e2 : readFig z = some ((NumText.digitsVal z.cps.toList : Nat) : Int) := by
        unfold readFig
        rw [if_pos hf, if_neg hn]
      rw [e2] at k2
      exact k2
    by_cases h48 : z.cps.toList[0] = 48
    · have e3 : decide (V.str ⟨#[z.cps.toList[0]]⟩ = V.str "0") = true := by
        rw [h48]
        decide +kernel
      rw [e3]
      refine iteT ⟨_, rfl, z, rfl, szOk tx, _, _, rfl, rfl, _, rfl, ?_⟩
      by_cases hz0 : z = "0"
      · rw [decide_eq_false (show ¬ (1 : Int) < z.length by rw [hz0]; decide)]
        exact iteF (fin fun q => q.2 hz0)
      · have hgt : (1 : Int) < z.length := by
          rcases Nat.lt_or_ge 1 z.length with h | h
          · omega
          · exfalso
            apply hz0
            refine TL.ext_tl ?_
            have hl : z.cps.toList.length = 1 := by
              have := TL.len_tl z
              unfold TL.tl at this
              omega
            show z.cps.toList = ("0" : Str).cps.toList
            rw [show ("0" : Str).cps.toList = [48] by decide +kernel]
            match hL2 : z.cps.toList, hl with
            | [c], _ =>
              simp only [hL2, List.getElem_cons_zero] at h48
              rw [h48]
        rw [decide_eq_true hgt]
        have e2 : readFig z = none := by
          unfold readFig
          rw [if_pos hf, if_pos ⟨by rw [hat, h48], hz0⟩]
        rw [e2] at k2
        exact iteT k2
    · have e3 : decide (V.str ⟨#[z.cps.toList[0]]⟩ = V.str "0") = false := decide_eq_false fun e => h48 (by
        have e5 := congrArg (fun s : Str => s.cps.toList) (V.str.inj e)
        have e6 : [z.cps.toList[0]] = [48] := e5
        exact (List.cons.inj e6).1)
      rw [e3]
      refine iteF (fin fun q => h48 ?_)
      rw [hat] at q
      exact Option.some.inj q.1
  · exact h.elim

/-! ### terms -/
abbrev tTurn (K : PySem.W.Frag) : TS := (tIfS (tTest (tOp rEq (tSl rSlS (tVar 0) (tPart (tUn (rU fun i => .int (-i)) (tCB rLenStr (tCons (tVar 1) tNil)))) tNoPart) (tVar 1))) (tSeq (tAsg (tCl (sp__law_figures K) [] ES0 (tCons (tSl rSlS (tVar 0) tNoPart (tPart (tUn (rU fun i => .int (-i)) (tCB rLenStr (tCons (tVar 1) tNil))))) tNil)) (gName 4))
  (tSeq (tIfS (tOr (tTest (tOp rIsNn (tVar 4) (tC .non))) (tOr (tTest (tOp rLtI (tVar 4) (tVar 3))) (tTest (tOp rGtI (tVar 4) (tC (.int 100000)))))) (tRet (tC .non)) tNext)
  (tRet (tTup (tCons (tVar 2) (tCons (tVar 4) tNil)))))) tNext)
theorem term_turn {z E w : Str} {lo : Int} {v4 : Option V} {H : Hp} {D : Ends} (tx : TxOk z) (he : E.length ≤ sizeLine)
    (yes : cutS z (some (-(E.length : Int))) none = E → (∀ H', Same H H' → (readFig (cutS z none (some (-(E.length : Int)))) = none ∨ ∃ n, readFig (cutS z none (some (-(E.length : Int)))) = some n ∧ (n < lo ∨ 100000 < n)) → D.rt .non H') ∧
      ∀ n a H', readFig (cutS z none (some (-(E.length : Int)))) = some n → ¬ (n < lo ∨ 100000 < n) → SqT K H' a [.str w, .int n] → Same H H' → D.rt (.ref a) H')
    (no : cutS z (some (-(E.length : Int))) none ≠ E → D.nx [some (.str z), some (.str E), some (.str w), some (.int lo), v4] H) :
    tTurn K D [some (.str z), some (.str E), some (.str w), some (.int lo), v4] H := by
  refine ⟨_, rfl, _, rfl, E, rfl, he, _, rfl, _, rfl, z, rfl, szOk tx, _, rfl, rfl, _, rfl, ?_⟩
  by_cases c : cutS z (some (-(E.length : Int))) none = E
  · rw [decide_eq_true (by rw [c])]
    obtain ⟨y1, y2⟩ := yes c
    refine iteT ⟨_, rfl, _, rfl, E, rfl, he, _, rfl, _, rfl, z, rfl, szOk tx, tx.cut _ _, fun H1 s1 => ?_⟩
    refine ⟨_, rfl, rfl, _, rfl, ?_⟩
    cases hf : readFig (cutS z none (some (-(E.length : Int)))) with
    | none => exact iteT (iteT (y1 H1 s1 (.inl hf)))
    | some n =>
      refine iteF ⟨_, rfl, _, rfl, _, _, rfl, rfl, _, rfl, ?_⟩
      by_cases c1 : n < lo
      · rw [decide_eq_true c1]
        exact iteT (iteT (y1 H1 s1 (.inr ⟨n, hf, .inl c1⟩)))
      · rw [decide_eq_false c1]
        refine iteF ⟨_, rfl, _, _, rfl, rfl, _, rfl, ?_⟩
        by_cases c2 : 100000 < n
        · rw [decide_eq_true c2]
          exact iteT (y1 H1 s1 (.inr ⟨n, hf, .inr c2⟩))
        · rw [decide_eq_false c2]
          exact iteF ⟨_, rfl, _, rfl, (by show 2 ≤ sizeLine; decide), fun a na => y2 n a _ hf (by omega) (.inl (.inl upd_same)) (s1.new na)⟩
  · rw [decide_eq_false fun e => c (V.str.inj e)]
    exact iteF (no c)
theorem l11 : (" days after" : Str).length = 11 := by decide +kernel
theorem l5 : (" days" : Str).length = 5 := by decide +kernel
theorem pure__law_term (vs : List V) (H : Hp) (Q : VK) (E : XK) (h : sp__law_term K vs H Q E) : t__law_term K { nx := fun _ H' => Q .non H', rt := Q } (start N__law_term vs) H := by
  unfold sp__law_term at h
  split at h
  · rename_i z
    obtain ⟨tx, k⟩ := h
    unfold lawTerm at k
    refine ⟨_, rfl, rfl, _, rfl, ?_⟩
    by_cases h0 : z = "ever"
    · rw [if_pos h0] at k
      rw [decide_eq_true (by rw [h0])]
      exact iteT ⟨(by show 1 ≤ sizeLine; decide), fun a na => k _ _ ⟨a, rfl, .inl (.inl upd_same)⟩ (same_new na)⟩
    rw [if_neg h0] at k
    rw [decide_eq_false fun e => h0 (V.str.inj e)]
    refine iteF ⟨(by show 3 ≤ sizeLine; decide), fun t1 n1 => ⟨(by show 3 ≤ sizeLine; decide), fun t2 n2 => ⟨(by show 2 ≤ sizeLine; decide), fun l nl => ?_⟩⟩⟩
    have s3 := ((same_new (o := .tup [V.str " days after", V.str "after", V.int 0]) n1).new (o := .tup [V.str " days", V.str "days", V.int 1]) n2).new (o := .lst [V.ref t1, V.ref t2]) nl
    have g1 := (same_new (o := .lst [V.ref t1, V.ref t2]) nl) _ _ ((same_new (o := .tup [V.str " days", V.str "days", V.int 1]) n2) _ _ (upd_same (H := H) (a := t1) (o := .tup [V.str " days after", V.str "after", V.int 0])))
    have g2 := (same_new (o := .lst [V.ref t1, V.ref t2]) nl) _ _ (upd_same (H := upd H t1 (.tup [V.str " days after", V.str "after", V.int 0])) (a := t2) (o := .tup [V.str " days", V.str "days", V.int 1]))
    have g3 : (upd (upd (upd H t1 (.tup [V.str " days after", V.str "after", V.int 0])) t2 (.tup [V.str " days", V.str "days", V.int 1])) l (.lst [V.ref t1, V.ref t2])) l = some (.lst [V.ref t1, V.ref t2]) := upd_same
    generalize upd (upd (upd H t1 (.tup [V.str " days after", V.str "after", V.int 0])) t2 (.tup [V.str " days", V.str "days", V.int 1])) l (.lst [V.ref t1, V.ref t2]) = H3 at s3 g1 g2 g3 ⊢
    refine ⟨l, rfl, ⟨_, SqL.of g3⟩, ?_⟩
    refine for_list (K := K) (a := l) (xs := [V.ref t1, V.ref t2]) (fun i σ H' => H' = H3 ∧ ∃ v1 v2 v3 v4, σ = [some (.str z), v1, v2, v3, v4] ∧ (1 ≤ i → cutS z (some (-11)) none ≠ " days after") ∧ (2 ≤ i → cutS z (some (-5)) none ≠ " days"))
      ⟨rfl, _, _, _, _, rfl, (fun h => absurd h (by decide)), fun h => absurd h (by decide)⟩ (fun i σ H' _ e => by rw [e.1]; exact SqL.of g3) ?_ ?_
    · rintro i y σ H' hi ⟨rfl, v1, v2, v3, v4, rfl, n11, n5⟩
      match i, hi with
      | 0, hi =>
        cases hi
        refine ⟨t1, _, rfl, .inl (.inl g1), rfl, _, _, rfl, _, _, rfl, _, _, rfl, rfl, ?_⟩
        refine term_turn tx (by rw [l11]; decide) (fun c => ?_) (fun c => ⟨rfl, _, _, _, _, rfl, (fun _ => by rw [l11] at c; exact c), fun h => absurd h (by decide)⟩)
        rw [l11] at c ⊢
        have c : cutS z (some (-11)) none = " days after" := c
        rw [if_pos c] at k
        refine ⟨fun H' s' hn => ?_, fun n a H' hf hn sq s' => ?_⟩
        · refine k _ _ ?_ (s3.trans s')
          rcases hn with hn | ⟨n, hn, hb⟩
          · have hn : readFig (cutS z none (some (-11))) = none := hn
            rw [hn]
            rfl
          · have hn : readFig (cutS z none (some (-11))) = some n := hn
            rw [hn]
            show OTm K H' .non (if n < 0 ∨ 100000 < n then none else _)
            rw [if_pos hb]
            rfl
        · refine k _ _ ?_ (s3.trans s')
          have hf : readFig (cutS z none (some (-11))) = some n := hf
          rw [hf]
          show OTm K H' (.ref a) (if n < 0 ∨ 100000 < n then none else some (.after n))
          rw [if_neg hn]
          exact ⟨a, rfl, sq⟩
      | 1, hi =>
        cases hi
        have n11 := n11 (Nat.le_refl 1)
        rw [if_neg n11] at k
        refine ⟨t2, _, rfl, .inl (.inl g2), rfl, _, _, rfl, _, _, rfl, _, _, rfl, rfl, ?_⟩
        refine term_turn tx (by rw [l5]; decide) (fun c => ?_) (fun c => ⟨rfl, _, _, _, _, rfl, (fun _ => n11), fun _ => by rw [l5] at c; exact c⟩)
        rw [l5] at c ⊢
        have c : cutS z (some (-5)) none = " days" := c
        rw [if_pos c] at k
        refine ⟨fun H' s' hn => ?_, fun n a H' hf hn sq s' => ?_⟩
        · refine k _ _ ?_ (s3.trans s')
          rcases hn with hn | ⟨n, hn, hb⟩
          · have hn : readFig (cutS z none (some (-5))) = none := hn
            rw [hn]
            rfl
          · have hn : readFig (cutS z none (some (-5))) = some n := hn
            rw [hn]
            show OTm K H' .non (if n < 1 ∨ 100000 < n then none else _)
            rw [if_pos hb]
            rfl
        · refine k _ _ ?_ (s3.trans s')
          have hf : readFig (cutS z none (some (-5))) = some n := hf
          rw [hf]
          show OTm K H' (.ref a) (if n < 1 ∨ 100000 < n then none else some (.days n))
          rw [if_neg hn]
          exact ⟨a, rfl, sq⟩
      | i + 2, hi => cases hi
    · rintro σ H' ⟨rfl, v1, v2, v3, v4, rfl, n11, n5⟩
      rw [if_neg (n11 (by show 1 ≤ 2; decide)), if_neg (n5 (by show 2 ≤ 2; decide))] at k
      exact k _ _ rfl s3
  · exact h.elim

/-! ### parts of a text -/
theorem spl_sub (S : List Nat) : ∀ (L : List Nat) (k : Nat) (acc : List Nat), ∀ h ∈ TL.spl S k acc L, (∀ c ∈ h, c ∈ acc ∨ c ∈ L) ∧ h.length ≤ acc.length + L.length
  | [], k, acc, h, hm => by
    rw [TL.spl_nil] at hm
    rw [List.mem_singleton.mp hm]
    exact ⟨fun c hc => .inl hc, Nat.le_refl _⟩
  | d :: r, k + 1, acc, h, hm => by
    obtain ⟨h1, h2⟩ := spl_sub S r k acc h hm
    exact ⟨fun c hc => (h1 c hc).imp id fun z => List.mem_cons_of_mem _ z, by rw [List.length_cons]; omega⟩
  | d :: r, 0, acc, h, hm => by
    have hm : h ∈ (if TL.pre S (d :: r) = true then acc :: TL.spl S (S.length - 1) [] r else TL.spl S 0 (acc ++ [d]) r) := hm
    rw [List.length_cons]
    split at hm
    · rcases List.mem_cons.mp hm with rfl | hm
      · exact ⟨fun c hc => .inl hc, by omega⟩
      · obtain ⟨h1, h2⟩ := spl_sub S r _ [] h hm
        exact ⟨fun c hc => (h1 c hc).elim (fun z => by cases z) fun z => .inr (List.mem_cons_of_mem _ z), by simp only [List.length_nil] at h2; omega⟩
    · obtain ⟨h1, h2⟩ := spl_sub S r 0 (acc ++ [d]) h hm
      rw [List.length_append, List.length_singleton] at h2
      refine ⟨fun c hc => ?_, by omega⟩
      rcases h1 c hc with z | z
      · rcases List.mem_append.mp z with z | z
        · exact .inl z
        · rw [List.mem_singleton.mp z]
          exact .inr (List.mem_cons_self ..)
      · exact .inr (List.mem_cons_of_mem _ z)
theorem split_ok {R : Str} (tx : TxOk R) : ∀ p ∈ Txt.split R ", ", TxOk p := fun p hp => by
  have e := SX.split_S (a := R.cps.toList) (b := [44, 32]) (by simp) (by decide)
  rw [SX.S_tl] at e
  have e : Txt.split R ", " = (TL.spl [44, 32] 0 [] R.cps.toList).map SX.S := e
  rw [e] at hp
  obtain ⟨h, hm, rfl⟩ := List.mem_map.mp hp
  obtain ⟨h1, h2⟩ := spl_sub _ _ _ _ h hm
  refine ⟨?_, fun c hc => tx.ok c ?_⟩
  · rw [SX.S_len]
    have := tx.len
    have el : R.length = R.cps.toList.length := TL.len_tl R
    simp only [List.length_nil] at h2
    omega
  · exact (h1 c (by simpa using hc)).elim (fun z => by cases z) id
theorem at_getD {ps : List Str} {i : Nat} (h : i < ps.length) : atI (ps.map V.str) (i : Int) = some (V.str (ps.getD i "")) := by
  refine atI_nat ?_
  rw [List.getElem?_map, List.getD_eq_getElem?_getD, List.getElem?_eq_getElem h]
  rfl
theorem getD_ok {R : Str} (tx : TxOk R) {i : Nat} (h : i < (Txt.split R ", ").length) : TxOk ((Txt.split R ", ").getD i "") := by
  rw [List.getD_eq_getElem?_getD, List.getElem?_eq_getElem h]
  exact split_ok tx _ (List.getElem_mem h)
theorem otm_none {H : Hp} {v : V} {o : Option Tm} (h : OTm K H v o) : decide (v = .non) = o.isNone := by
  cases o with
  | none =>
    rw [show v = .non from h]
    rfl
  | some t =>
    obtain ⟨a, rfl, _⟩ := h
    rfl
theorem pure__law_due (vs : List V) (H : Hp) (Q : VK) (E : XK) (h : sp__law_due K vs H Q E) : t__law_due K { nx := fun _ H' => Q .non H', rt := Q } (start N__law_due vs) H := by
  unfold sp__law_due at h
  split at h
  · rename_i z
    obtain ⟨tx, k⟩ := h
    rw [← due_same] at k
    unfold lawDue at k
    refine ⟨_, rfl, ⟨_, rfl⟩, z, ": ", rfl, rfl, ?_⟩
    generalize Txt.find z ": " = f at k ⊢
    have txR : TxOk (cutS z (some (f + 2)) none) := tx.cut _ _
    refine ⟨_, rfl, _, rfl, _, _, rfl, rfl, _, rfl, z, rfl, szOk tx, ⟨_, rfl⟩, _, ", ", rfl, rfl, by decide +kernel, ?_, fun pl np => ?_⟩
    · have := txR.len
      rw [sizeLine_eq]
      omega
    have pos := PyProof.Rows.split_pos (cutS z (some (f + 2)) none) ", "
    have okP : ∀ {i : Nat}, i < (Txt.split (cutS z (some (f + 2)) none) ", ").length → TxOk ((Txt.split (cutS z (some (f + 2)) none) ", ").getD i "") := fun h => getD_ok txR h
    generalize Txt.split (cutS z (some (f + 2)) none) ", " = ps at k np pos okP ⊢
    have g0 : (upd H pl (.lst (ps.map V.str))) pl = some (.lst (ps.map V.str)) := upd_same
    have s0 := same_new (o := .lst (ps.map V.str)) np
    generalize upd H pl (.lst (ps.map V.str)) = H0 at g0 s0 ⊢
    refine ⟨_, rfl, pl, _, _, _, rfl, rfl, SqL.of g0, at_getD (i := 0) (by omega), okP (by omega), fun vt H1 ot s1 => ?_⟩
    have g1 := s1 _ _ g0
    have s01 := s0.trans s1
    refine ⟨_, rfl, _, _, rfl, rfl, _, rfl, ?_⟩
    by_cases c0 : f < 0
    · rw [decide_eq_true c0]
      rw [if_pos c0] at k
      exact iteT (iteT (k _ _ rfl s01))
    rw [decide_eq_false c0]
    rw [if_neg c0] at k
    refine iteF ⟨_, rfl, _, rfl, _, rfl, z, rfl, szOk tx, .str (tx.cut _ _), fun H2 s2 => ⟨_, rfl, ?_⟩⟩
    have s02 := s01.trans s2
    have g2 := s2 _ _ g1
    have ot2 : OTm K H2 vt (lawTerm (ps.getD 0 "")) := by
      cases hl : lawTerm (ps.getD 0 "") with
      | none => rw [hl] at ot; exact ot
      | some t => rw [hl] at ot; exact TmAt.same s2 ot
    have en : isNm (V.str (cutS z none (some f))) = isNmS (cutS z none (some f)) := rfl
    rw [en]
    cases hn : isNmS (cutS z none (some f))
    · rw [hn] at k
      exact iteT (iteT (k _ _ rfl s02))
    rw [hn, if_pos rfl] at k
    unfold lawRest at k
    refine iteF ⟨_, rfl, rfl, _, rfl, ?_⟩
    rw [otm_none ot2]
    cases hl : lawTerm (ps.getD 0 "") with
    | none =>
      rw [hl] at k
      exact iteT (iteT (k _ _ rfl s02))
    | some t =>
      rw [hl] at k ot2
      have k : ∀ v H', OKd K H' v (if 2 < ps.length then none else if ps.length = 2 then (match readFig (cutS (ps.getD 1 "") none (some (-7))) with | none => none | some l => if cutS (ps.getD 1 "") (some (-7)) none ≠ " people" ∨ l < 1 ∨ 1000 < l then none else some (cutS z none (some f), t, l)) else some (cutS z none (some f), t, 0)) → Same H H' → Q v H' := k
      refine iteF ⟨_, rfl, pl, _, rfl, .inl (SqL.of g2), _, _, rfl, rfl, _, rfl, ?_⟩
      rw [List.length_map]
      by_cases c2 : (2 : Int) < ps.length
      · rw [decide_eq_true c2]
        rw [if_pos (by omega)] at k
        exact iteT (k _ _ rfl s02)
      rw [decide_eq_false c2]
      rw [if_neg (by omega)] at k
      have fin : ∀ (v4 : V) (l : Int) (H' : Hp), v4 = .int l → Same H2 H' → (∀ v H', OKd K H' v (some (cutS z none (some f), t, l)) → Same H H' → Q v H') → (tRet (tTup (tCons (tSl rSlS (tVar 0) tNoPart (tPart (tVar 1))) (tCons (tVar 3) (tCons (tVar 4) tNil))))) { nx := fun _ H' => Q .non H', rt := Q } [some (.str z), some (.int f), some (.ref pl), some vt, some v4] H' := fun v4 l H' e s' kk => by
        subst e
        refine ⟨_, rfl, _, rfl, _, rfl, z, rfl, szOk tx, _, rfl, _, rfl, (by show 3 ≤ sizeLine; decide), fun a na => kk _ _ ⟨a, vt, rfl, .inl (.inl upd_same), ?_⟩ ((s02.trans s').new na)⟩
        exact TmAt.same (s'.new na) ot2
      refine iteF ⟨_, rfl, pl, _, rfl, .inl (SqL.of g2), rfl, _, rfl, ?_⟩
      rw [List.length_map]
      by_cases c3 : ps.length = 2
      · rw [if_pos c3] at k
        refine ifEq (by omega) ⟨_, rfl, pl, _, _, _, rfl, rfl, SqL.of g2, at_getD (i := 1) (by omega), _, rfl, _, rfl, _, rfl, szOk (okP (by omega)), (okP (by omega)).cut _ _, fun H3 s3 => ?_⟩
        have g3 := s3 _ _ g2
        refine ⟨_, rfl, pl, _, _, _, rfl, rfl, SqL.of g3, at_getD (i := 1) (by omega), _, rfl, _, rfl, _, rfl, szOk (okP (by omega)), rfl, _, rfl, ?_⟩
        by_cases c4 : cutS (ps.getD 1 "") (some (-7)) none = " people"
        · have e4 : (!decide (V.str (cutS (ps.getD 1 "") (some (-7)) none) = V.str " people")) = false := by rw [c4]; rfl
          refine iteE e4 ⟨_, rfl, rfl, _, rfl, ?_⟩
          cases hf : readFig (cutS (ps.getD 1 "") none (some (-7))) with
          | none =>
            have e5 : readFig (cutS (ps.getD 1 "") none (some (-7))) = none := hf
            rw [e5] at k
            exact iteT (iteT (k _ _ rfl (s02.trans s3)))
          | some l =>
            rw [hf] at k
            have k : ∀ v H', OKd K H' v (if cutS (ps.getD 1 "") (some (-7)) none ≠ " people" ∨ l < 1 ∨ 1000 < l then none else some (cutS z none (some f), t, l)) → Same H H' → Q v H' := k
            refine iteF ⟨_, rfl, _, _, rfl, rfl, _, rfl, ?_⟩
            by_cases c5 : l < 1
            · rw [decide_eq_true c5]
              rw [if_pos (.inr (.inl c5))] at k
              exact iteT (iteT (k _ _ rfl (s02.trans s3)))
            rw [decide_eq_false c5]
            refine iteF ⟨_, rfl, _, _, rfl, rfl, _, rfl, ?_⟩
            by_cases c6 : 1000 < l
            · rw [decide_eq_true c6]
              rw [if_pos (.inr (.inr c6))] at k
              exact iteT (k _ _ rfl (s02.trans s3))
            rw [decide_eq_false c6]
            rw [if_neg (fun q => q.elim (fun q => q c4) (fun q => q.elim c5 c6))] at k
            exact iteF (fin _ l H3 rfl s3 k)
        · have e4 : (!decide (V.str (cutS (ps.getD 1 "") (some (-7)) none) = V.str " people")) = true := by rw [decide_eq_false fun e => c4 (V.str.inj e)]; rfl
          have : ∀ {A B : Prop}, A → if (!decide (V.str (cutS (ps.getD 1 "") (some (-7)) none) = V.str " people")) = true then A else B := fun a => by
            rw [e4]
            exact iteT a
          refine this (iteT ?_)
          cases hf : readFig (cutS (ps.getD 1 "") none (some (-7))) with
          | none =>
            rw [hf] at k
            exact k _ _ rfl (s02.trans s3)
          | some l =>
            rw [hf] at k
            have k : ∀ v H', OKd K H' v (if cutS (ps.getD 1 "") (some (-7)) none ≠ " people" ∨ l < 1 ∨ 1000 < l then none else some (cutS z none (some f), t, l)) → Same H H' → Q v H' := k
            rw [if_pos (.inl c4)] at k
            exact k _ _ rfl (s02.trans s3)
      · rw [if_neg c3] at k
        exact ifNe (by omega) (fin _ 0 H2 rfl (Same.refl H2) k)
  · exact h.elim

/-! ### drawn texts -/
theorem numOk {n : Int} (h0 : 0 ≤ n) (h1 : n < 1000000) : TxOk (numT n) ∧ (numT n).length ≤ 6 := by
  have hl := (numT_len h0 h1).2
  refine ⟨⟨by omega, fun c hc => ?_⟩, hl⟩
  rw [numT_tl h0] at hc
  have := TL.numL_digits n.toNat c hc
  omega
theorem logOk {n : Int} (h0 : 0 ≤ n) (h1 : n < 1000000) : n.natAbs.log2 < 1920 := by
  by_cases hz : n.natAbs = 0
  · rw [hz]
    decide
  · have h2 : n.natAbs < 2 ^ 20 := by omega
    have := (Nat.log2_lt hz).mpr h2
    omega
theorem catOk {a b : Str} (ha : TxOk a) (hb : TxOk b) (h : a.length + b.length ≤ 100000) : TxOk (a ++ b) := ha.cat hb (Nat.le_refl _) (Nat.le_refl _) h
theorem catLen (a b : Str) : (a ++ b).length = a.length + b.length := str_cat_len a b
theorem catSz {a b : Str} (h : a.length + b.length ≤ 100000) : a.length + b.length ≤ sizeLine := Nat.le_trans h (by decide)
theorem cutLen (z : Str) (lo hi : Option Int) : (cutS z lo hi).length ≤ z.length := cutS_length z lo hi
theorem litLen (z : Str) (n : Nat) (h : z.length = n) : z.length ≤ n := Nat.le_of_eq h
theorem pure__law_text (vs : List V) (H : Hp) (Q : VK) (E : XK) (h : sp__law_text K vs H Q E) : t__law_text K { nx := fun _ H' => Q .non H', rt := Q } (start N__law_text vs) H := by
  unfold sp__law_text at h
  split at h
  · rename_i p
    obtain ⟨P0, q⟩ := h
    -- a number below one of two bounds
    have pick : ∀ (b : Int) (H0 : Hp) (R : VK), 10 ≤ b → b ≤ 1000000 → PotAt H0 p → (∀ n H', 0 ≤ n → n < 1000000 → PotAt H' p → Keep [p] H0 H' → R (.int n) H') → ∀ σ : L2.St, σ[0]? = some (some (V.ref p)) →
        (tCl (sp__law_draw K) [] ES0 (tCons (tVar 0) (tCons (tOp (rIxL K) (tLst (tCons (tC (.int 10)) (tCons (tC (.int b)) tNil))) (tCl (sp__law_draw K) [] ES0 (tCons (tVar 0) (tCons (tC (.int 2)) tNil)))) tNil))) σ H0 R := fun b H0 R b0 b1 PP k σ hσ => by
      refine ⟨_, hσ, (by show 2 ≤ sizeLine; decide), fun l nl => ⟨_, hσ, potSame PP (same_new nl), by decide, by decide, fun d H1 d0 d2 P1 k1 => ?_⟩⟩
      have npl := potNe PP nl
      have gl := k1.k _ _ upd_same (by simp [npl.symm] : l ∉ [p])
      obtain ⟨v, ev, n, rfl, n0, n1⟩ := menu (xs := [V.int 10, V.int b]) (n := 2) (d := d) (fun v => ∃ n : Int, v = V.int n ∧ 10 ≤ n ∧ n ≤ 1000000) rfl d0 d2 (by
        intro v hv
        simp only [List.mem_cons, List.not_mem_nil, or_false] at hv
        rcases hv with rfl | rfl
        · exact ⟨10, rfl, by decide, by decide⟩
        · exact ⟨b, rfl, b0, b1⟩)
      refine ⟨l, _, _, _, rfl, rfl, SqL.of gl, ev, P1, by omega, by omega, fun m H2 m0 m1 P2 k2 => ?_⟩
      exact k m H2 m0 (by omega) P2 (((Keep.same (same_new nl)).trans k1).trans k2)
    refine pick 100003 H _ (by decide) (by decide) P0 (fun n1 H1 a0 a1 P1 k1 => ?_) _ rfl
    refine pick 1003 H1 _ (by decide) (by decide) P1 (fun n2 H2 b0 b1 P2 k2 => ?_) _ rfl
    obtain ⟨t1, u1⟩ := numOk a0 a1
    obtain ⟨t2, u2⟩ := numOk b0 b1
    have lD : TxOk (" days" : Str) := lit_ok (by decide +kernel)
    have lA : TxOk (" days after" : Str) := lit_ok (by decide +kernel)
    have lE : TxOk ("ever" : Str) := lit_ok (by decide +kernel)
    have lC : TxOk (": " : Str) := lit_ok (by decide +kernel)
    have lS : TxOk (", " : Str) := lit_ok (by decide +kernel)
    have lP : TxOk (" people" : Str) := lit_ok (by decide +kernel)
    have zE : ("ever" : Str).length = 4 := by decide +kernel
    have zC : (": " : Str).length = 2 := by decide +kernel
    have zS : (", " : Str).length = 2 := by decide +kernel
    have zP : (" people" : Str).length = 7 := by decide +kernel
    refine ⟨_, rfl, n1, rfl, logOk a0 a1, _, _, rfl, rfl, catSz (by rw [l5]; show (numT n1).length + 5 ≤ _; omega), _, rfl, n1, rfl, logOk a0 a1, _, _, rfl, rfl, catSz (by rw [l11]; show (numT n1).length + 11 ≤ _; omega), (by show 3 ≤ sizeLine; decide), fun l nl => ?_⟩
    refine ⟨_, rfl, potSame P2 (same_new nl), by decide, by decide, fun d H3 d0 d3 P3 k3 => ?_⟩
    have gl := k3.k _ _ upd_same (by simp [(potNe P2 nl).symm] : l ∉ [p])
    obtain ⟨v, ev, w, rfl, wt, wl⟩ := menu (xs := [V.str "ever", V.str (numT n1 ++ " days"), V.str (numT n1 ++ " days after")]) (n := 3) (d := d) (fun v => ∃ w : Str, v = V.str w ∧ TxOk w ∧ w.length ≤ 17) rfl d0 d3 (by
      intro v hv
      simp only [List.mem_cons, List.not_mem_nil, or_false] at hv
      rcases hv with rfl | rfl | rfl
      · exact ⟨_, rfl, lE, by rw [zE]; decide⟩
      · exact ⟨_, rfl, catOk t1 lD (by rw [l5]; omega), by rw [catLen, l5]; omega⟩
      · exact ⟨_, rfl, catOk t1 lA (by rw [l11]; omega), by rw [catLen, l11]; omega⟩)
    refine ⟨l, _, _, _, rfl, rfl, SqL.of gl, ev, _, rfl, P3, fun x H4 hx P4 k4 => ?_⟩
    have hx8 := hx.2.1
    have tx1 : TxOk (x ++ ": ") := catOk hx.ok lC (by rw [zC]; omega)
    have z1 : (x ++ ": " : Str).length ≤ 10 := by rw [catLen, zC]; omega
    have tx2 : TxOk (x ++ ": " ++ w) := catOk tx1 wt (by omega)
    have z2 : (x ++ ": " ++ w : Str).length ≤ 27 := by rw [catLen]; omega
    have z3 : (", " ++ numT n2 : Str).length ≤ 8 := by rw [catLen, zS]; omega
    have z4 : (", " ++ numT n2 ++ " people" : Str).length ≤ 15 := by rw [catLen, zP]; omega
    refine ⟨_, _, rfl, rfl, catSz (by rw [zC]; omega), _, rfl, _, _, rfl, rfl, catSz (by omega), ?_⟩
    refine ⟨_, rfl, n2, rfl, logOk b0 b1, _, _, rfl, rfl, catSz (by rw [zS]; show 2 + (numT n2).length ≤ _; omega), _, _, rfl, rfl, catSz (by rw [zP]; show (", " ++ numT n2 : Str).length + 7 ≤ _; omega), (by show 2 ≤ sizeLine; decide), fun l2 nl2 => ?_⟩
    refine ⟨_, rfl, potSame P4 (same_new nl2), by decide, by decide, fun e H5 e0 e2 P5 k5 => ?_⟩
    have gl2 := k5.k _ _ upd_same (by simp [(potNe P4 nl2).symm] : l2 ∉ [p])
    obtain ⟨v, ev2, y, rfl, yt, yl⟩ := menu (xs := [V.str "", V.str (", " ++ numT n2 ++ " people")]) (n := 2) (d := e) (fun v => ∃ w : Str, v = V.str w ∧ TxOk w ∧ w.length ≤ 15) rfl e0 e2 (by
      intro v hv
      simp only [List.mem_cons, List.not_mem_nil, or_false] at hv
      rcases hv with rfl | rfl
      · exact ⟨_, rfl, nil_ok, Nat.zero_le _⟩
      · exact ⟨_, rfl, catOk (catOk lS t2 (by rw [zS]; omega)) lP (by rw [zP]; omega), z4⟩)
    refine ⟨l2, _, _, _, rfl, rfl, SqL.of gl2, ev2, _, _, rfl, rfl, catSz (by omega), ?_⟩
    refine q _ _ (catOk tx2 yt (by omega)) (by rw [catLen]; omega) P5 ?_
    exact (((((k1.trans k2).trans (.same (same_new nl))).trans k3).trans k4).trans (.same (same_new nl2))).trans k5
  · exact h.elim
abbrev sg15 : Str := "0159,: adsA\n-+_"
theorem sg15_len : sg15.cps.toList.length = 15 := by decide +kernel
theorem sg15_ok : ∀ c ∈ sg15.cps.toList, c < 1114112 := by decide +kernel
theorem pure__law_spoiled (vs : List V) (H : Hp) (Q : VK) (E : XK) (h : sp__law_spoiled K vs H Q E) : t__law_spoiled K { nx := fun _ H' => Q .non H', rt := Q } (start N__law_spoiled vs) H := by
  unfold sp__law_spoiled at h
  split at h
  · rename_i z p
    obtain ⟨tx, zl, P0, q⟩ := h
    refine ⟨_, rfl, _, rfl, z, rfl, szOk tx, _, _, rfl, rfl, P0, by omega, by omega, fun d H1 d0 d1 P1 k1 => ?_⟩
    refine ⟨_, rfl, P1, by decide, by decide, fun e H2 e0 e1 P2 k2 => ?_⟩
    obtain ⟨c, hat, hm⟩ := str_at sg15_len e0 e1
    have tc : TxOk ⟨#[c]⟩ := one_ok (sg15_ok c hm)
    have zc : (⟨#[c]⟩ : Str).length = 1 := rfl
    refine ⟨_, _, c, rfl, rfl, by decide +kernel, hat, _, rfl, P2, by decide, by decide, fun w H3 w0 w4 P3 k3 => ?_⟩
    have k03 := (k1.trans k2).trans k3
    have l1 := cutLen z none (some d)
    have l2 := cutLen z (some d) none
    have l3 := cutLen z (some (d + 1)) none
    have t1 := tx.cut none (some d)
    have t2 := tx.cut (some d) none
    have t3 := tx.cut (some (d + 1)) none
    have sum1 : (cutS z none (some d)).length + (cutS z (some d) none).length ≤ z.length := by
      obtain ⟨j, rfl⟩ : ∃ j : Nat, d = (j : Int) := ⟨d.toNat, by omega⟩
      have e1 : (cutS z none (some (j : Int))).length ≤ j := by
        rw [TL.len_tl]
        show ((z.cps.toList.drop 0).take (HT.sIx z.length z.length (some (j : Int)) - 0)).length ≤ j
        rw [HT.sIx_nat, List.length_take]
        omega
      have e2 : (cutS z (some (j : Int)) none).length ≤ z.length - j := by
        rw [TL.len_tl]
        show ((z.cps.toList.drop (HT.sIx z.length 0 (some (j : Int)))).take (z.length - HT.sIx z.length 0 (some (j : Int)))).length ≤ z.length - j
        rw [HT.sIx_nat, List.length_take]
        omega
      omega
    have sum2 : (cutS z none (some d)).length + (cutS z (some (d + 1)) none).length ≤ z.length := by
      obtain ⟨j, rfl⟩ : ∃ j : Nat, d = (j : Int) := ⟨d.toNat, by omega⟩
      have e1 : (cutS z none (some (j : Int))).length ≤ j := by
        rw [TL.len_tl]
        show ((z.cps.toList.drop 0).take (HT.sIx z.length z.length (some (j : Int)) - 0)).length ≤ j
        rw [HT.sIx_nat, List.length_take]
        omega
      have e2 : (cutS z (some ((j : Int) + 1)) none).length ≤ z.length - j := by
        have ej : ((j : Int) + 1) = ((j + 1 : Nat) : Int) := by omega
        rw [ej, TL.len_tl]
        show ((z.cps.toList.drop (HT.sIx z.length 0 (some ((j + 1 : Nat) : Int)))).take (z.length - HT.sIx z.length 0 (some ((j + 1 : Nat) : Int)))).length ≤ z.length - j
        rw [HT.sIx_nat, List.length_take]
        omega
      omega
    refine ⟨_, rfl, rfl, _, rfl, ?_⟩
    by_cases c0 : w = 0
    · refine ifEq c0 ⟨_, rfl, _, rfl, _, rfl, z, rfl, szOk tx, _, rfl, _, _, rfl, rfl, catSz (by omega), _, rfl, _, rfl, _, rfl, z, rfl, szOk tx, _, _, rfl, rfl, catSz (by rw [catLen]; omega), ?_⟩
      exact q _ _ (catOk (catOk t1 tc (by omega)) t2 (by rw [catLen]; omega)) (by rw [catLen, catLen]; omega) P3 k03
    refine ifNe c0 ⟨_, rfl, rfl, _, rfl, ?_⟩
    by_cases c1 : w = 1
    · refine ifEq c1 ⟨_, rfl, _, rfl, _, rfl, z, rfl, szOk tx, _, rfl, _, rfl, _, _, rfl, rfl, _, rfl, z, rfl, szOk tx, _, _, rfl, rfl, catSz (by omega), ?_⟩
      exact q _ _ (catOk t1 t3 (by omega)) (by rw [catLen]; omega) P3 k03
    refine ifNe c1 ⟨_, rfl, rfl, _, rfl, ?_⟩
    by_cases c2 : w = 2
    · refine ifEq c2 ⟨_, rfl, _, rfl, _, rfl, z, rfl, szOk tx, _, rfl, _, _, rfl, rfl, catSz (by omega), _, rfl, _, rfl, _, _, rfl, rfl, _, rfl, z, rfl, szOk tx, _, _, rfl, rfl, catSz (by rw [catLen]; omega), ?_⟩
      exact q _ _ (catOk (catOk t1 tc (by omega)) t3 (by rw [catLen]; omega)) (by rw [catLen, catLen]; omega) P3 k03
    refine ifNe c2 ⟨(by show 9 ≤ sizeLine; decide), fun l nl => ⟨_, rfl, potSame P3 (same_new nl), by decide, by decide, fun g H4 g0 g9 P4 k4 => ?_⟩⟩
    have gl := k4.k _ _ upd_same (by simp [(potNe P3 nl).symm] : l ∉ [p])
    have lits : ∀ s ∈ ([" days", " after", ", ", ": ", "ever", "days", " people", ", 2 people", "0"] : List Str), s.length ≤ 10 ∧ ∀ c ∈ s.cps.toList, c < 1114112 := by decide +kernel
    obtain ⟨v, ev, y, rfl, yt, yl⟩ := menu (xs := ([" days", " after", ", ", ": ", "ever", "days", " people", ", 2 people", "0"] : List Str).map V.str) (n := 9) (d := g) (fun v => ∃ w : Str, v = V.str w ∧ TxOk w ∧ w.length ≤ 10) rfl g0 g9 (by
      intro v hv
      obtain ⟨s, hs, rfl⟩ := List.mem_map.mp hv
      have := lits s hs
      exact ⟨s, rfl, ⟨by omega, this.2⟩, this.1⟩)
    refine ⟨l, _, _, _, rfl, rfl, SqL.of gl, ev, ?_⟩
    refine ⟨_, rfl, _, rfl, _, rfl, z, rfl, szOk tx, _, rfl, _, _, rfl, rfl, catSz (by omega), _, rfl, _, rfl, _, rfl, z, rfl, szOk tx, _, _, rfl, rfl, catSz (by rw [catLen]; omega), ?_⟩
    exact q _ _ (catOk (catOk t1 yt (by omega)) t2 (by rw [catLen]; omega)) (by rw [catLen, catLen]; omega) P4 ((k03.trans (.same (same_new nl))).trans k4)
  · exact h.elim
theorem joinL_mem : ∀ (l : List (List Nat)) (c : Nat), c ∈ TL.joinL [] l → ∃ w ∈ l, c ∈ w
  | [], c, h => by cases h
  | [w], c, h => ⟨w, List.mem_singleton.mpr rfl, h⟩
  | w :: x :: r, c, h => by
    have h : c ∈ w ++ ([] ++ TL.joinL [] (x :: r)) := h
    rcases List.mem_append.mp h with h | h
    · exact ⟨w, List.mem_cons_self .., h⟩
    · obtain ⟨y, hy, hc⟩ := joinL_mem (x :: r) c h
      exact ⟨y, List.mem_cons_of_mem _ hy, hc⟩
theorem joinL_len {n : Nat} : ∀ (l : List (List Nat)), (∀ w ∈ l, w.length ≤ n) → (TL.joinL [] l).length ≤ l.length * n
  | [], _ => Nat.zero_le _
  | [w], h => by
    have := h w (List.mem_singleton.mpr rfl)
    show w.length ≤ 1 * n
    omega
  | w :: x :: r, h => by
    have h1 := h w (List.mem_cons_self ..)
    have h2 := joinL_len (x :: r) fun y hy => h y (List.mem_cons_of_mem _ hy)
    show (w ++ ([] ++ TL.joinL [] (x :: r))).length ≤ _
    rw [List.length_append, List.nil_append, List.length_cons (a := w), Nat.succ_mul]
    omega
theorem joinOk {ws : List Str} (h : ∀ w ∈ ws, w.length ≤ 7 ∧ ∀ c ∈ w.cps.toList, c < 1114112) (hl : ws.length ≤ 20) : TxOk (Txt.join "" ws) ∧ (ws.map (·.length)).sum + ws.length * 0 ≤ 16777216 := by
  have e : (Txt.join "" ws).cps.toList = TL.joinL [] (ws.map TL.tl) := by
    have e1 := TL.tl_join "" ws
    rw [← TL.join_eq] at e1
    exact e1
  have e2 := joinL_len (n := 7) (ws.map TL.tl) (fun w hw => by
    obtain ⟨x, hx, rfl⟩ := List.mem_map.mp hw
    have := (h x hx).1
    rw [TL.len_tl] at this
    exact this)
  rw [List.length_map] at e2
  refine ⟨⟨?_, fun c hc => ?_⟩, ?_⟩
  · rw [TL.len_tl]
    show (Txt.join "" ws).cps.toList.length ≤ _
    rw [e]
    omega
  · rw [e] at hc
    obtain ⟨w, hw, hc⟩ := joinL_mem _ _ hc
    obtain ⟨x, hx, rfl⟩ := List.mem_map.mp hw
    exact (h x hx).2 c hc
  · have : ∀ l : List Str, (∀ w ∈ l, w.length ≤ 7) → (l.map (·.length)).sum ≤ l.length * 7 := fun l => by
      induction l with
      | nil => intro _; exact Nat.le_refl _
      | cons x r ih =>
        intro h
        have h1 := h x (List.mem_cons_self ..)
        have h2 := ih fun y hy => h y (List.mem_cons_of_mem _ hy)
        rw [List.map_cons, List.sum_cons, List.length_cons, Nat.succ_mul]
        omega
    have := this ws fun w hw => (h w hw).1
    omega
theorem pure__law_any (vs : List V) (H : Hp) (Q : VK) (E : XK) (h : sp__law_any K vs H Q E) : t__law_any K { nx := fun _ H' => Q .non H', rt := Q } (start N__law_any vs) H := by
  unfold sp__law_any at h
  split at h
  · rename_i p
    obtain ⟨P0, q⟩ := h
    refine ⟨_, rfl, P0, by decide, by decide, fun w H1 w0 w8 P1 k1 => ?_⟩
    refine ⟨_, rfl, rfl, _, rfl, ?_⟩
    by_cases c0 : w = 0
    · refine ifEq c0 ⟨Nat.zero_le _, fun a1 n1 => ⟨(by show 1 ≤ sizeLine; decide), fun a2 n2 => ⟨(by show 1 ≤ sizeLine; decide), fun a3 n3 => ?_⟩⟩⟩
      intro a4 n4
      refine ⟨(by show 8 ≤ sizeLine; decide), fun l nl => ?_⟩
      have r4 := same_new (o := .lst [V.non, V.int 7, V.bl true, V.ref a1, V.ref a2, V.str "", V.ref a3, V.ref a4]) nl
      have g4 := r4 _ _ upd_same
      have r3 := (same_new (o := .dK []) n4).trans r4
      have g3 := r3 _ _ upd_same
      have r2 := (same_new (o := .lst [V.str "a: ever"]) n3).trans r3
      have g2 := r2 _ _ upd_same
      have r1 := (same_new (o := .tup [V.str "a: ever"]) n2).trans r2
      have g1 := r1 _ _ upd_same
      have r0 := (same_new (o := .lst []) n1).trans r1
      have gl : (upd (upd (upd (upd (upd H1 a1 (.lst [])) a2 (.tup [V.str "a: ever"])) a3 (.lst [V.str "a: ever"])) a4 (.dK [])) l (.lst [V.non, V.int 7, V.bl true, V.ref a1, V.ref a2, V.str "", V.ref a3, V.ref a4])) l = _ := upd_same
      have m1 := potNe P1 n1
      have m2 := potNe (potSame P1 (same_new n1)) n2
      have m3 := potNe (potSame P1 ((same_new n1).new n2)) n3
      have m4 := potNe (potSame P1 (((same_new n1).new n2).new n3)) n4
      have ml := potNe (potSame P1 ((((same_new n1).new n2).new n3).new n4)) nl
      generalize upd (upd (upd (upd (upd H1 a1 (.lst [])) a2 (.tup [V.str "a: ever"])) a3 (.lst [V.str "a: ever"])) a4 (.dK [])) l (.lst [V.non, V.int 7, V.bl true, V.ref a1, V.ref a2, V.str "", V.ref a3, V.ref a4]) = H2 at r0 g1 g2 g3 g4 gl ⊢
      refine ⟨_, rfl, potSame P1 r0, by decide, by decide, fun d H3 d0 d8 P3 k3 => ?_⟩
      have f1 := off_at (k3.k _ _ g1 (by simp [m1.symm])) m1.symm
      have f2 := off_at (k3.k _ _ g2 (by simp [m2.symm])) m2.symm
      have f3 := off_at (k3.k _ _ g3 (by simp [m3.symm])) m3.symm
      have f4 := off_at (k3.k _ _ g4 (by simp [m4.symm])) m4.symm
      obtain ⟨v, ev, kn⟩ := menu (xs := [V.non, V.int 7, V.bl true, V.ref a1, V.ref a2, V.str "", V.ref a3, V.ref a4]) (n := 8) (d := d) (fun v => Kn K (off p H3) v) rfl d0 d8 (by
        intro v hv
        simp only [List.mem_cons, List.not_mem_nil, or_false] at hv
        rcases hv with rfl | rfl | rfl | rfl | rfl | rfl | rfl | rfl
        · exact .non
        · exact .int 7
        · exact .bl true
        · exact .lst f1
        · exact .tup f2
        · exact .str nil_ok
        · exact .lst f3
        · exact .dct f4)
      refine ⟨l, _, _, _, rfl, rfl, SqL.of (k3.k _ _ gl (by simp [ml.symm])), ev, q v H3 P3 kn ((k1.trans (.same r0)).trans k3)⟩
    refine ifNe c0 ⟨_, rfl, rfl, _, rfl, ?_⟩
    by_cases c1 : w = 1
    · refine ifEq c1 ⟨(by show 10 ≤ sizeLine; decide), fun l nl => ?_⟩
      have ml := potNe P1 nl
      have gl : (upd H1 l (.lst ((["a", ": ", "ever", "3", " days", " after", ", ", " people", "0", " "] : List Str).map V.str))) l = _ := upd_same
      have sl := same_new (o := .lst ((["a", ": ", "ever", "3", " days", " after", ", ", " people", "0", " "] : List Str).map V.str)) nl
      refine ⟨⟨_, rfl⟩, _, rfl, potSame P1 sl, by decide, by decide, fun n H2 n0 n9 P2 k2 => ?_⟩
      refine ⟨_, rfl, by omega, by omega, fun D hD => ?_⟩
      have pd : p ≠ D := potNe P2 hD
      have k02 : Keep [p] H H2 := (k1.trans (.same sl)).trans k2
      have hD0 : H D = none := k02.free (by simp [pd.symm]) hD
      have gl2 := k2.k _ _ gl (by simp [ml.symm] : l ∉ [p])
      have lD : l ≠ D := ne_of_none gl2 hD
      refine lc_range (g := gName 5) (vs := [5]) (lo := 0) (n := n.toNat) (fun i H' => PotAt H' p ∧ Keep [p] H H' ∧ H' l = some (.lst ((["a", ": ", "ever", "3", " days", " after", ", ", " people", "0", " "] : List Str).map V.str)) ∧ ∃ cs : List Str, cs.length = i ∧ (∀ w ∈ cs, w.length ≤ 7 ∧ ∀ c ∈ w.cps.toList, c < 1114112) ∧ H' D = some (.lst (cs.map V.str)))
        ⟨potSame P2 (same_new hD), k02.new hD0, (upd_ne lD).trans gl2, [], rfl, by simp, upd_same⟩ (fun i H3 hi ⟨P3, k3, g3, cs, hl, hc, hd⟩ => ?_) (fun H3 ⟨P3, k3, g3, cs, hl, hc, hd⟩ => ?_)
      · refine ⟨wipe1, _, rfl, _, rfl, P3, by decide, by decide, fun d H4 d0 d10 P4 k4 => ?_⟩
        have lits : ∀ s ∈ (["a", ": ", "ever", "3", " days", " after", ", ", " people", "0", " "] : List Str), s.length ≤ 7 ∧ ∀ c ∈ s.cps.toList, c < 1114112 := by decide +kernel
        obtain ⟨v, ev, y, rfl, hy⟩ := menu (xs := (["a", ": ", "ever", "3", " days", " after", ", ", " people", "0", " "] : List Str).map V.str) (n := 10) (d := d) (fun v => ∃ w : Str, v = V.str w ∧ w.length ≤ 7 ∧ ∀ c ∈ w.cps.toList, c < 1114112) rfl d0 d10 (by
          intro v hv
          obtain ⟨s, hs, rfl⟩ := List.mem_map.mp hv
          exact ⟨s, rfl, lits s hs⟩)
        have g4 := k4.k _ _ g3 (by simp [ml.symm] : l ∉ [p])
        have hd4 := k4.k _ _ hd (by simp [pd.symm] : D ∉ [p])
        refine ⟨l, _, _, _, rfl, rfl, SqL.of g4, ev, _, hd4, by rw [List.length_map, sizeLine_eq]; omega, ?_⟩
        refine ⟨P4.keep (l := [D]) (Keep.refl.put (by simp)) (by simp [pd]), (k3.trans k4).new hD0, (upd_ne lD).trans g4, cs ++ [y], by simp [hl], fun x hx => ?_, by rw [upd_same, List.map_append]; rfl⟩
        rcases List.mem_append.mp hx with hx | hx
        · exact hc x hx
        · rw [List.mem_singleton.mp hx]
          exact hy
      · obtain ⟨j1, j2⟩ := joinOk hc (by omega)
        exact ⟨_, D, cs, rfl, rfl, .inl (SqL.of hd), j2, q _ _ P3 (.str j1) k3⟩
    refine ifNe c1 ⟨_, rfl, P1, fun z H2 tz zl P2 k2 => ?_⟩
    refine ⟨_, rfl, P2, by decide, by decide, fun n H3 n0 n4 P3 k3 => ?_⟩
    refine ⟨_, rfl, by omega, by omega, ?_⟩
    refine for_range (lo := 0) (n := n.toNat) (fun i σ H' => ∃ z' v4, σ = [some (.ref p), some (.int w), none, some (.str z'), v4, none] ∧ TxOk z' ∧ z'.length ≤ 100 + 20 * i ∧ PotAt H' p ∧ Keep [p] H H') ⟨z, _, rfl, tz, by omega, P3, (k1.trans k2).trans k3⟩ ?_ ?_
    · rintro i σ H4 hi ⟨z', v4, rfl, tz', zl', P4, k4⟩
      exact ⟨_, rfl, _, rfl, tz', by omega, P4, fun y H5 ty yl P5 k5 => ⟨y, _, rfl, ty, by omega, P5, k4.trans k5⟩⟩
    · rintro σ H4 ⟨z', v4, rfl, tz', zl', P4, k4⟩
      exact ⟨_, rfl, q _ _ P4 (.str tz') k4⟩
  · exact h.elim

/-! ### what is told -/
theorem readV_not {v : V} (h : isStrV v = false) : readV v = none := by
  cases v with
  | str z => cases h
  | _ => rfl
theorem pure__law_told (vs : List V) (H : Hp) (Q : VK) (E : XK) (h : sp__law_told K vs H Q E) : t__law_told K { nx := fun _ H' => Q .non H', rt := Q } (start N__law_told vs) H := by
  unfold sp__law_told at h
  split at h
  · rename_i v
    obtain ⟨EK, kn, k⟩ := h
    have nN : ("NoText" : Str) ∈ errNames := by decide +kernel
    intro D' N d1 d2 d3 d4 dN
    refine ⟨_, rfl, kn, fun z x t l ez er p vt H1 ka ta s1 => ?_, fun hn H1 s1 => ?_⟩
    · subst ez
      obtain ⟨dx, hp⟩ := ka
      refine dN _ _ ⟨_, rfl, p, dx, _, _, rfl, hp, rfl, _, rfl, p, dx, _, _, rfl, hp, rfl, _, rfl, p, dx, _, _, rfl, hp, rfl, (by show 3 ≤ sizeLine; decide), fun a na => ⟨_, rfl, k _ _ ?_ (s1.new na)⟩⟩
      have : readV (V.str z) = some (x, t, l) := er
      rw [this]
      exact ⟨a, vt, rfl, .inl (.inl upd_same), TmAt.same (same_new na) ta⟩
    · have e0 : readV v = none := by
        cases hs : isStrV v
        · exact readV_not hs
        · obtain ⟨z, rfl⟩ := isStrV_str hs
          exact hn z rfl
      rw [e0] at k
      refine ⟨true, EK.exm _ nN, fun _ a0 _ => ?_, fun q => Bool.noConfusion q⟩
      refine ⟨_, rfl, (by show 9 ≤ sizeLine; decide), fun tp htp => ⟨_, tp, _, _, _, rfl, rfl, EK.exc _ nN, rfl, upd_same, clsv_errs K ["Answered", "BadKind", "NoAnswer", "NoDay", "NoHold", "NoKind", "NoMatter", "NoName", "NoPerson"], kitAny_errs EK nN _ (by decide +kernel), ?_⟩⟩
      refine ⟨_, rfl, _, rfl, iteF ⟨_, rfl, (by show 5 ≤ sizeLine; decide), fun tq htq => ⟨_, tq, _, _, _, rfl, rfl, EK.exc _ nN, rfl, upd_same, clsv_errs K ["NoRows", "NoTelling", "NoThing", "NoWay", "Taken"], kitAny_errs EK nN _ (by decide +kernel), ?_⟩⟩⟩
      refine ⟨_, rfl, _, _, _, _, rfl, rfl, EK.exc _ nN, rfl, .own _, EK.kit _ nN _ nN, true, rfl, iteT ?_⟩
      refine ⟨_, rfl, _, _, _, _, rfl, rfl, EK.exc _ nN, rfl, .ty _, EK.kitV _ nN, true, rfl, iteT ?_⟩
      refine ⟨_, rfl, false, rfl, iteT ?_⟩
      exact d1 _ _ ⟨_, rfl, k _ _ rfl ((s1.new htp).new htq)⟩
  · exact h.elim
def dK3 : Option (Str × Tm × Int) → PyData
  | none => .none
  | some (x, t, l) => .tuple [.str x, tmD t, .int l]
theorem readKind_name {z x : Str} {t : Tm} {l : Int} (h : readKind z = some (x, t, l)) : TxOk x := by
  unfold readKind at h
  split at h
  · rename_i hn
    have ex : (Txt.partition z ": ").1 = x := by
      revert h
      cases rTerm z with
      | none => intro h; cases h
      | some t' =>
        cases rLeast z with
        | none => intro h; cases h
        | some l' =>
          intro h
          have h : (if (tmOk t' && (decide (0 ≤ l') && decide (l' ≤ 1000))) = true then some ((Txt.partition z ": ").1, t', l') else none) = some (x, t, l) := h
          split at h
          · exact congrArg Prod.fst (Option.some.inj h)
          · cases h
    rw [ex] at hn
    unfold isNmS at hn
    obtain ⟨h1, h2⟩ := Bool.and_eq_true_iff.mp hn
    obtain ⟨h3, h4⟩ := Bool.and_eq_true_iff.mp h1
    have h4 := of_decide_eq_true h4
    refine ⟨by omega, fun c hc => ?_⟩
    have h5 : ∀ d ∈ abc.cps.toList, d < 1114112 := by decide +kernel
    exact h5 c (of_decide_eq_true (List.all_eq_true.mp h2 c hc))
  · cases h
theorem dd_tm (t : Tm) : Dd 1 (tmD t) := by
  cases t with
  | ever =>
    exact Dd.tuple (n := 0) fun d hd => by
      rw [List.mem_singleton.mp hd]
      exact Dd.str (lit_ok (by decide +kernel))
  | days n =>
    exact Dd.tuple (n := 0) fun d hd => by
      rcases List.mem_cons.mp hd with rfl | hd
      · exact Dd.str (lit_ok (by decide +kernel))
      · rw [List.mem_singleton.mp hd]
        exact Dd.int n
  | after n =>
    exact Dd.tuple (n := 0) fun d hd => by
      rcases List.mem_cons.mp hd with rfl | hd
      · exact Dd.str (lit_ok (by decide +kernel))
      · rw [List.mem_singleton.mp hd]
        exact Dd.int n
theorem sh3 {o : Option (Str × Tm × Int)} (h : ∀ x t l, o = some (x, t, l) → TxOk x) : SeqAt.shaped (dK3 o) = true := by
  match o, h with
  | none, _ => rfl
  | some (x, t, l), h => exact (Dd.tuple (n := 1) fun d hd => by
      simp only [List.mem_cons, List.not_mem_nil, or_false] at hd
      rcases hd with rfl | rfl | rfl
      · exact (Dd.str (h x t l rfl)).mono (by decide)
      · exact dd_tm t
      · exact (Dd.int l).mono (by decide)).sh (by decide)
theorem OKd.dp {H : Hp} {v : V} {o : Option (Str × Tm × Int)} (h : OKd K H v o) : Dp K H v (dK3 o) := by
  match o, h with
  | none, h =>
    rw [show v = .non from h]
    exact .non
  | some (x, t, l), ⟨a, vt, e, h1, h2⟩ =>
    rw [e]
    exact .tup h1 (.cons (.str x) (.cons h2.dt.dp (.cons (.int l) .nil)))
theorem readV_name {v : V} {x : Str} {t : Tm} {l : Int} (h : readV v = some (x, t, l)) : TxOk x := by
  cases v with
  | str z => exact readKind_name h
  | _ => cases h
theorem cut_ints {ms : List Int} {z : Int} (n : Nat) (h : ms.length ≤ 1000) (hz : z = n) : ∃ cs : List Int, cutV (ms.map V.int) none (some z) = cs.map V.int := by
  unfold cutV
  rw [← List.map_drop, ← List.map_take]
  exact ⟨_, rfl⟩
theorem ints_at {cs : List Int} {i : Nat} {y : V} (hi : (cs.map V.int)[i]? = some y) : ∃ c, y = V.int c := by
  rw [List.getElem?_map] at hi
  cases e : cs[i]? with
  | none => rw [e] at hi; cases hi
  | some u => rw [e] at hi; exact ⟨u, (Option.some.inj hi).symm⟩
abbrev k1a : Option (Str × Tm × Int) := some ("a", Tm.ever, 1)
theorem due1 : readKind "a: ever, 1 people" = k1a := by
  unfold readKind
  rw [if_pos (by decide +kernel)]
  have e1 : (Txt.partition "a: ever, 1 people" ": ").1 = "a" := by decide +kernel
  have e2 : (Txt.partition (Txt.partition "a: ever, 1 people" ": ").2.2 ",").1 = "ever" := by decide +kernel
  have e3 : rLeast "a: ever, 1 people" = some 1 := by decide +kernel
  unfold rTerm readTerm
  rw [e1, e2, e3, if_pos rfl]
  rfl
theorem due0 : readKind "" = none := by
  unfold readKind
  rw [if_neg (by decide +kernel)]
theorem pure_law (vs : List V) (H : Hp) (Q : VK) (E : XK) (h : sp_law K vs H Q E) : t_law K { nx := fun _ H' => Q .non H', rt := Q } (start N_law vs) H := by
  unfold sp_law at h
  split at h
  · rename_i a
    obtain ⟨EK, ms, hS, hlen, k⟩ := h
    refine ⟨_, rfl, _, rfl, a, _, rfl, hS, fun q hq => ?_⟩
    obtain ⟨cs, ecs⟩ := cut_ints (ms := ms) (z := 40) 40 (by omega) rfl
    rw [ecs]
    refine ⟨q, rfl, ⟨_, SqL.of upd_same⟩, for_list (K := K) (a := q) (xs := cs.map V.int)
      (fun i σ H' => ∃ v1 v2 v3, σ = [some (.ref a), v1, v2, v3] ∧ H' q = some (.lst (cs.map V.int)))
      ⟨_, _, _, rfl, upd_same⟩ (fun i σ H' _ ⟨_, _, _, _, e⟩ => SqL.of e) ?_ ?_⟩
    · rintro i y σ H' hi ⟨v1, v2, v3, rfl, hqq⟩
      obtain ⟨c, rfl⟩ := ints_at hi
      refine ⟨_, rfl, fun pp H1 np1 P1 s1 => ⟨P1, fun v H2 P2 kn k2 => ?_⟩⟩
      have s2 : Same H' H2 := k2.drop s1 np1
      have kn2 : Kn K H2 v := kn.of_off
      have fin : ∀ (dv : V) (H3 : Hp), Same H2 H3 → OKd K H3 dv (readV v) → ∀ D : Ends, (∀ H', H' q = some (.lst (cs.map V.int)) → D.nx [some (.ref a), some (.int c), some v, some dv] H') →
          (tIfS (tOr (tTest (tOp (rNeD K) (tCl (sp__law_told K) [] ES0 (tCons (tVar 2) tNil)) (tVar 3))) (tTest (tOp (rNeD K) (tCl (sp__law_told K) [] ES0 (tCons (tVar 2) tNil)) (tVar 3)))) (tRet (tC (.bl false))) tNext) D [some (.ref a), some (.int c), some v, some dv] H3 := by
        intro dv H3 s3 hd D hD
        have sh := sh3 (o := readV v) fun x t l e => readV_name e
        have er := SeqAt.eqv_refl _ (SeqAt.canLay_of_shaped sh)
        refine ⟨_, rfl, EK, kn2.same s3, fun r1 H4 o4 s4 => ⟨_, rfl, _, _, o4.dp, (hd.same s4).dp, sh, sh, _, rfl, ?_⟩⟩
        rw [er]
        refine iteF ⟨_, rfl, EK, kn2.same (s3.trans s4), fun r2 H5 o5 s5 => ⟨_, rfl, _, _, o5.dp, (hd.same (s4.trans s5)).dp, sh, sh, _, rfl, ?_⟩⟩
        rw [er]
        exact iteF (hD _ ((s3.trans (s4.trans s5)) _ _ (s2 _ _ hqq)))
      obtain ⟨T, ty, kt⟩ := kn2.isS K
      refine ⟨_, rfl, v, _, _, _, _, rfl, .ty "str", ty, kt, _, rfl, ?_⟩
      cases hs : isStrV v
      · refine iteF (fin .non H2 (Same.refl H2) ?_ _ fun H' e => ⟨_, _, _, rfl, e⟩)
        rw [readV_not hs]
        rfl
      · obtain ⟨z, rfl⟩ := isStrV_str hs
        exact iteT ⟨_, rfl, kn2.tx, fun dv H3 od s3 => fin dv H3 s3 od _ fun H' e => ⟨_, _, _, rfl, e⟩⟩
    · rintro σ H' ⟨v1, v2, v3, rfl, hqq⟩
      refine ⟨EK, .str nil_ok, fun r1 H1 o1 s1 => ⟨rfl, _, rfl, ?_⟩⟩
      have o1 : OKd K H1 r1 (readKind "") := o1
      rw [due0] at o1
      rw [show r1 = .non from o1]
      refine iteT ⟨EK, .str (lit_ok (by decide +kernel)), fun r2 H2 o2 s2 => ?_⟩
      have o2 : OKd K H2 r2 (readKind "a: ever, 1 people") := o2
      rw [due1] at o2
      refine ⟨(by show 1 ≤ sizeLine; decide), fun t nt => ⟨(by show 3 ≤ sizeLine; decide), fun u nu => ?_⟩⟩
      have o3 : OKd K (upd (upd H2 t (.tup [V.str "ever"])) u (.tup [V.str "a", V.ref t, V.int 1])) (.ref u) k1a := ⟨u, .ref t, rfl, .inl (.inl upd_same), t, rfl, .inl (.inl ((same_new nu) _ _ upd_same))⟩
      have sh := sh3 (o := k1a) fun x t l e => by
        cases e
        exact lit_ok (by decide +kernel)
      refine ⟨_, _, (o2.same ((same_new nt).new nu)).dp, o3.dp, sh, sh, ?_⟩
      rw [SeqAt.eqv_refl _ (SeqAt.canLay_of_shaped sh)]
      exact k _
  · exact h.elim
theorem law_asks (K : PySem.W.Frag) (EK : ErrK K) (H : Hp) (a : Addr) (ns : List Int) (hl : ns.length ≤ 63) (hO : Only H) (hS : SqL K H a (ns.map V.int)) : sp_law K [.ref a] H (fun v _ => v = .bl true) (fun _ _ _ => False) := ⟨EK, ns, hS, hl, fun _ => rfl⟩
end G15

set_option Elab.async false
set_option linter.all false
set_option maxRecDepth 100000
set_option maxHeartbeats 4000000

namespace G15
open PySem PySem.Spec PyProof.Rows L2 U G
def top (i : Nat) : Stmt := PySem.Challenge.pw_forgethall_k15_whole_kind_texts_judged.main.body.getD i (.Pass ⟨0, 0, 0, 0⟩)
abbrev s__law_draw : Stmt := top 35
abbrev M__law_draw : List Str := ["_law_pot_here", "_law_many", "_law_digit"]
theorem sc__law_draw : FnScope M__law_draw ["_law_pot_here", "_law_many"] (defScope s__law_draw) := ⟨rfl, rfl, rfl, by decide +kernel, rfl, by decide +kernel, by decide +kernel⟩
abbrev s__law_spoiled : Stmt := top 42
abbrev M__law_spoiled : List Str := ["_law_text_here", "_law_pot_here", "_law_at", "_law_sign", "_law_way", "_law_word_here"]
theorem sc__law_spoiled : FnScope M__law_spoiled ["_law_text_here", "_law_pot_here"] (defScope s__law_spoiled) := ⟨rfl, rfl, rfl, by decide +kernel, rfl, by decide +kernel, by decide +kernel⟩
abbrev s__law_word : Stmt := top 36
abbrev M__law_word : List Str := ["_law_pot_here", "_law_k"]
theorem sc__law_word : FnScope M__law_word ["_law_pot_here"] (defScope s__law_word) := ⟨rfl, rfl, rfl, by decide +kernel, rfl, by decide +kernel, by decide +kernel⟩
abbrev s__law_text : Stmt := top 41
abbrev M__law_text : List Str := ["_law_pot_here", "_law_number", "_law_least", "_law_term_here"]
theorem sc__law_text : FnScope M__law_text ["_law_pot_here"] (defScope s__law_text) := ⟨rfl, rfl, rfl, by decide +kernel, rfl, by decide +kernel, by decide +kernel⟩
abbrev s__law_any : Stmt := top 43
abbrev M__law_any : List Str := ["_law_pot_here", "_law_way", "_law_words", "_law_text_here", "_law_turn", "_law_k"]
theorem sc__law_any : FnScope M__law_any ["_law_pot_here"] (defScope s__law_any) := ⟨rfl, rfl, rfl, by decide +kernel, rfl, by decide +kernel, by decide +kernel⟩
abbrev s__law_figures : Stmt := top 38
abbrev M__law_figures : List Str := ["_law_text_here", "_law_sign"]
theorem sc__law_figures : FnScope M__law_figures ["_law_text_here"] (defScope s__law_figures) := ⟨rfl, rfl, rfl, by decide +kernel, rfl, by decide +kernel, by decide +kernel⟩
abbrev s__law_is_name : Stmt := top 37
abbrev M__law_is_name : List Str := ["_law_thing", "_law_sign"]
theorem sc__law_is_name : FnScope M__law_is_name ["_law_thing"] (defScope s__law_is_name) := ⟨rfl, rfl, rfl, by decide +kernel, rfl, by decide +kernel, by decide +kernel⟩
abbrev s__law_term : Stmt := top 39
abbrev M__law_term : List Str := ["_law_text_here", "_law_end", "_law_word_here", "_law_least", "_law_number"]
theorem sc__law_term : FnScope M__law_term ["_law_text_here"] (defScope s__law_term) := ⟨rfl, rfl, rfl, by decide +kernel, rfl, by decide +kernel, by decide +kernel⟩
abbrev s__law_due : Stmt := top 40
abbrev M__law_due : List Str := ["_law_text_here", "_law_at", "_law_parts", "_law_term_here", "_law_least"]
theorem sc__law_due : FnScope M__law_due ["_law_text_here"] (defScope s__law_due) := ⟨rfl, rfl, rfl, by decide +kernel, rfl, by decide +kernel, by decide +kernel⟩
abbrev s__law_pot : Stmt := top 34
abbrev M__law_pot : List Str := ["_law_cell_here"]
theorem sc__law_pot : FnScope M__law_pot ["_law_cell_here"] (defScope s__law_pot) := ⟨rfl, rfl, rfl, by decide +kernel, rfl, by decide +kernel, by decide +kernel⟩
abbrev s_is_name : Stmt := top 20
abbrev M_is_name : List Str := ["thing", "letter"]
theorem sc_is_name : FnScope M_is_name ["thing"] (defScope s_is_name) := ⟨rfl, rfl, rfl, by decide +kernel, rfl, by decide +kernel, by decide +kernel⟩
abbrev s_is_whole : Stmt := top 25
abbrev M_is_whole : List Str := ["thing", "least", "most"]
theorem sc_is_whole : FnScope M_is_whole ["thing", "least", "most"] (defScope s_is_whole) := ⟨rfl, rfl, rfl, by decide +kernel, rfl, by decide +kernel, by decide +kernel⟩
abbrev s_is_term : Stmt := top 26
abbrev M_is_term : List Str := ["thing"]
theorem sc_is_term : FnScope M_is_term ["thing"] (defScope s_is_term) := ⟨rfl, rfl, rfl, by decide +kernel, rfl, by decide +kernel, by decide +kernel⟩
abbrev s_Kind___init__ : Stmt := inClass (top 27) 0
abbrev M_Kind___init__ : List Str := ["self", "name", "term", "least"]
theorem sc_Kind___init__ : FnScope M_Kind___init__ ["self", "name", "term", "least"] (defScope s_Kind___init__) := ⟨rfl, rfl, rfl, by decide +kernel, rfl, by decide +kernel, by decide +kernel⟩
abbrev s_read_figures : Stmt := top 28
abbrev M_read_figures : List Str := ["text", "sign"]
theorem sc_read_figures : FnScope M_read_figures ["text"] (defScope s_read_figures) := ⟨rfl, rfl, rfl, by decide +kernel, rfl, by decide +kernel, by decide +kernel⟩
abbrev s_read_least : Stmt := top 30
abbrev M_read_least : List Str := ["text", "number"]
theorem sc_read_least : FnScope M_read_least ["text"] (defScope s_read_least) := ⟨rfl, rfl, rfl, by decide +kernel, rfl, by decide +kernel, by decide +kernel⟩
abbrev s_read_term : Stmt := top 29
abbrev M_read_term : List Str := ["text", "figures", "blank", "words", "number"]
theorem sc_read_term : FnScope M_read_term ["text"] (defScope s_read_term) := ⟨rfl, rfl, rfl, by decide +kernel, rfl, by decide +kernel, by decide +kernel⟩
abbrev s_read_kind : Stmt := top 31
abbrev M_read_kind : List Str := ["text", "found", "name", "colon", "rest", "words", "comma", "more", "term", "least"]
theorem sc_read_kind : FnScope M_read_kind ["text"] (defScope s_read_kind) := ⟨rfl, rfl, rfl, by decide +kernel, rfl, by decide +kernel, by decide +kernel⟩
abbrev s__law_told : Stmt := top 44
abbrev M__law_told : List Str := ["_law_text_here", "_law_found", "_law_kind", "e", "_law_others"]
theorem sc__law_told : FnScope M__law_told ["_law_text_here"] (defScope s__law_told) := ⟨rfl, rfl, rfl, by decide +kernel, rfl, by decide +kernel, by decide +kernel⟩
abbrev s_law : Stmt := top 45
abbrev M_law : List Str := ["_law_script", "_law_cell_here", "_law_thing", "_law_due_here"]
theorem sc_law : FnScope M_law ["_law_script"] (defScope s_law) := ⟨rfl, rfl, rfl, by decide +kernel, rfl, by decide +kernel, by decide +kernel⟩
def df__law_draw : He.DefD := ⟨("_law_draw", none), "_law_draw", "_law_draw", defArgs s__law_draw, defBody s__law_draw, defScope s__law_draw, [], []⟩
def df__law_spoiled : He.DefD := ⟨("_law_spoiled", none), "_law_spoiled", "_law_spoiled", defArgs s__law_spoiled, defBody s__law_spoiled, defScope s__law_spoiled, [], []⟩
def df__law_word : He.DefD := ⟨("_law_word", none), "_law_word", "_law_word", defArgs s__law_word, defBody s__law_word, defScope s__law_word, [], []⟩
def df__law_text : He.DefD := ⟨("_law_text", none), "_law_text", "_law_text", defArgs s__law_text, defBody s__law_text, defScope s__law_text, [], []⟩
def df__law_any : He.DefD := ⟨("_law_any", none), "_law_any", "_law_any", defArgs s__law_any, defBody s__law_any, defScope s__law_any, [], []⟩
def df__law_figures : He.DefD := ⟨("_law_figures", none), "_law_figures", "_law_figures", defArgs s__law_figures, defBody s__law_figures, defScope s__law_figures, [], []⟩
def df__law_is_name : He.DefD := ⟨("_law_is_name", none), "_law_is_name", "_law_is_name", defArgs s__law_is_name, defBody s__law_is_name, defScope s__law_is_name, [], []⟩
def df__law_term : He.DefD := ⟨("_law_term", none), "_law_term", "_law_term", defArgs s__law_term, defBody s__law_term, defScope s__law_term, [], []⟩
def df__law_due : He.DefD := ⟨("_law_due", none), "_law_due", "_law_due", defArgs s__law_due, defBody s__law_due, defScope s__law_due, [], []⟩
def df__law_pot : He.DefD := ⟨("_law_pot", none), "_law_pot", "_law_pot", defArgs s__law_pot, defBody s__law_pot, defScope s__law_pot, [], []⟩
def df_is_name : He.DefD := ⟨("is_name", none), "is_name", "is_name", defArgs s_is_name, defBody s_is_name, defScope s_is_name, [], []⟩
def df_is_whole : He.DefD := ⟨("is_whole", none), "is_whole", "is_whole", defArgs s_is_whole, defBody s_is_whole, defScope s_is_whole, [], []⟩
def df_is_term : He.DefD := ⟨("is_term", none), "is_term", "is_term", defArgs s_is_term, defBody s_is_term, defScope s_is_term, [], []⟩
def df_read_figures : He.DefD := ⟨("read_figures", none), "read_figures", "read_figures", defArgs s_read_figures, defBody s_read_figures, defScope s_read_figures, [], []⟩
def df_read_least : He.DefD := ⟨("read_least", none), "read_least", "read_least", defArgs s_read_least, defBody s_read_least, defScope s_read_least, [], []⟩
def df_read_term : He.DefD := ⟨("read_term", none), "read_term", "read_term", defArgs s_read_term, defBody s_read_term, defScope s_read_term, [], []⟩
def df_read_kind : He.DefD := ⟨("read_kind", none), "read_kind", "read_kind", defArgs s_read_kind, defBody s_read_kind, defScope s_read_kind, [], []⟩
def df__law_told : He.DefD := ⟨("_law_told", none), "_law_told", "_law_told", defArgs s__law_told, defBody s__law_told, defScope s__law_told, [], []⟩
def df_law : He.DefD := ⟨("law", none), "law", "law", defArgs s_law, defBody s_law, defScope s_law, [], []⟩
def df_Kind___init__ : He.DefD := ⟨("Kind", some "__init__"), "__init__", "Kind.__init__", defArgs s_Kind___init__, defBody s_Kind___init__, defScope s_Kind___init__, [.int 0], []⟩
def fa : List He.Fa := [.free "str", .free "isinstance", .free "range", .free "divmod", .free "len", .free "int", .free "abs", .free "max", .glo "HallError", .glo "Answered", .glo "BadKind", .glo "NoAnswer", .glo "NoDay", .glo "NoHold", .glo "NoKind", .glo "NoMatter", .glo "NoName", .glo "NoPerson", .glo "NoRows", .glo "NoTelling", .glo "NoThing", .glo "NoWay", .glo "Taken", .glo "NoText", .free "ValueError", .cls "Kind", .noat "Kind" "name", .noat "Kind" "term", .noat "Kind" "least", .int "MOST_PEOPLE" 1000, .exc "NoText", .exc "BadKind", .int "MOST_LETTERS" 8, .str "LETTERS" "abcdefghijklmnopqrstuvwxyz", .free "all", .free "tuple", .int "MOST_DAYS" 100000, .free "bool", .str "FIGURES" "0123456789", .glo "_law_draw", .glo "_law_spoiled", .glo "_law_word", .glo "_law_text", .glo "_law_any", .glo "_law_figures", .glo "_law_is_name", .glo "_law_term", .glo "_law_due", .glo "_law_pot", .glo "is_name", .glo "is_whole", .glo "is_term", .glo "read_figures", .glo "read_least", .glo "read_term", .glo "read_kind", .glo "_law_told", .glo "law", .glo "Kind", .mkr "Kind"]
def fn : List He.DefD := [df__law_draw, df__law_spoiled, df__law_word, df__law_text, df__law_any, df__law_figures, df__law_is_name, df__law_term, df__law_due, df__law_pot, df_is_name, df_is_whole, df_is_term, df_read_figures, df_read_least, df_read_term, df_read_kind, df__law_told, df_law, df_Kind___init__]
def ex : PySem.W.Frag → Bool := errB
structure Txt (w : World) (K : PySem.W.Frag) (mg : Str → Option Value) : Prop where
  ex : ∃ h : Heap, K.In h ∧ h.Ns mainGlobals mg ∧ He.SaysX fa fn [] [] ex w h K
section
variable {P : Program} {w : World} {K : PySem.W.Frag} {mg : Str → Option Value} {base : Heap}
theorem Txt.b_str (T : Txt w K mg) : mg "str" = none := by
  obtain ⟨h, X, G, c⟩ := T.ex
  exact He.free_ok X G (c.t.d.fact 0 (f := .free "str") rfl)
theorem Txt.b_isinstance (T : Txt w K mg) : mg "isinstance" = none := by
  obtain ⟨h, X, G, c⟩ := T.ex
  exact He.free_ok X G (c.t.d.fact 1 (f := .free "isinstance") rfl)
theorem Txt.b_range (T : Txt w K mg) : mg "range" = none := by
  obtain ⟨h, X, G, c⟩ := T.ex
  exact He.free_ok X G (c.t.d.fact 2 (f := .free "range") rfl)
theorem Txt.b_divmod (T : Txt w K mg) : mg "divmod" = none := by
  obtain ⟨h, X, G, c⟩ := T.ex
  exact He.free_ok X G (c.t.d.fact 3 (f := .free "divmod") rfl)
theorem Txt.b_len (T : Txt w K mg) : mg "len" = none := by
  obtain ⟨h, X, G, c⟩ := T.ex
  exact He.free_ok X G (c.t.d.fact 4 (f := .free "len") rfl)
theorem Txt.b_int (T : Txt w K mg) : mg "int" = none := by
  obtain ⟨h, X, G, c⟩ := T.ex
  exact He.free_ok X G (c.t.d.fact 5 (f := .free "int") rfl)
theorem Txt.b_abs (T : Txt w K mg) : mg "abs" = none := by
  obtain ⟨h, X, G, c⟩ := T.ex
  exact He.free_ok X G (c.t.d.fact 6 (f := .free "abs") rfl)
theorem Txt.b_max (T : Txt w K mg) : mg "max" = none := by
  obtain ⟨h, X, G, c⟩ := T.ex
  exact He.free_ok X G (c.t.d.fact 7 (f := .free "max") rfl)
theorem Txt.g_HallError (T : Txt w K mg) : mg "HallError" = some (.ref (He.ga K "HallError")) := by
  obtain ⟨h, X, G, c⟩ := T.ex
  exact He.glo_ok X G (c.t.d.fact 8 (f := .glo "HallError") rfl)
theorem Txt.g_Answered (T : Txt w K mg) : mg "Answered" = some (.ref (He.ga K "Answered")) := by
  obtain ⟨h, X, G, c⟩ := T.ex
  exact He.glo_ok X G (c.t.d.fact 9 (f := .glo "Answered") rfl)
theorem Txt.g_BadKind (T : Txt w K mg) : mg "BadKind" = some (.ref (He.ga K "BadKind")) := by
  obtain ⟨h, X, G, c⟩ := T.ex
  exact He.glo_ok X G (c.t.d.fact 10 (f := .glo "BadKind") rfl)
theorem Txt.g_NoAnswer (T : Txt w K mg) : mg "NoAnswer" = some (.ref (He.ga K "NoAnswer")) := by
  obtain ⟨h, X, G, c⟩ := T.ex
  exact He.glo_ok X G (c.t.d.fact 11 (f := .glo "NoAnswer") rfl)
theorem Txt.g_NoDay (T : Txt w K mg) : mg "NoDay" = some (.ref (He.ga K "NoDay")) := by
  obtain ⟨h, X, G, c⟩ := T.ex
  exact He.glo_ok X G (c.t.d.fact 12 (f := .glo "NoDay") rfl)
theorem Txt.g_NoHold (T : Txt w K mg) : mg "NoHold" = some (.ref (He.ga K "NoHold")) := by
  obtain ⟨h, X, G, c⟩ := T.ex
  exact He.glo_ok X G (c.t.d.fact 13 (f := .glo "NoHold") rfl)
theorem Txt.g_NoKind (T : Txt w K mg) : mg "NoKind" = some (.ref (He.ga K "NoKind")) := by
  obtain ⟨h, X, G, c⟩ := T.ex
  exact He.glo_ok X G (c.t.d.fact 14 (f := .glo "NoKind") rfl)
theorem Txt.g_NoMatter (T : Txt w K mg) : mg "NoMatter" = some (.ref (He.ga K "NoMatter")) := by
  obtain ⟨h, X, G, c⟩ := T.ex
  exact He.glo_ok X G (c.t.d.fact 15 (f := .glo "NoMatter") rfl)
theorem Txt.g_NoName (T : Txt w K mg) : mg "NoName" = some (.ref (He.ga K "NoName")) := by
  obtain ⟨h, X, G, c⟩ := T.ex
  exact He.glo_ok X G (c.t.d.fact 16 (f := .glo "NoName") rfl)
theorem Txt.g_NoPerson (T : Txt w K mg) : mg "NoPerson" = some (.ref (He.ga K "NoPerson")) := by
  obtain ⟨h, X, G, c⟩ := T.ex
  exact He.glo_ok X G (c.t.d.fact 17 (f := .glo "NoPerson") rfl)
theorem Txt.g_NoRows (T : Txt w K mg) : mg "NoRows" = some (.ref (He.ga K "NoRows")) := by
  obtain ⟨h, X, G, c⟩ := T.ex
  exact He.glo_ok X G (c.t.d.fact 18 (f := .glo "NoRows") rfl)
theorem Txt.g_NoTelling (T : Txt w K mg) : mg "NoTelling" = some (.ref (He.ga K "NoTelling")) := by
  obtain ⟨h, X, G, c⟩ := T.ex
  exact He.glo_ok X G (c.t.d.fact 19 (f := .glo "NoTelling") rfl)
theorem Txt.g_NoThing (T : Txt w K mg) : mg "NoThing" = some (.ref (He.ga K "NoThing")) := by
  obtain ⟨h, X, G, c⟩ := T.ex
  exact He.glo_ok X G (c.t.d.fact 20 (f := .glo "NoThing") rfl)
theorem Txt.g_NoWay (T : Txt w K mg) : mg "NoWay" = some (.ref (He.ga K "NoWay")) := by
  obtain ⟨h, X, G, c⟩ := T.ex
  exact He.glo_ok X G (c.t.d.fact 21 (f := .glo "NoWay") rfl)
theorem Txt.g_Taken (T : Txt w K mg) : mg "Taken" = some (.ref (He.ga K "Taken")) := by
  obtain ⟨h, X, G, c⟩ := T.ex
  exact He.glo_ok X G (c.t.d.fact 22 (f := .glo "Taken") rfl)
theorem Txt.g_NoText (T : Txt w K mg) : mg "NoText" = some (.ref (He.ga K "NoText")) := by
  obtain ⟨h, X, G, c⟩ := T.ex
  exact He.glo_ok X G (c.t.d.fact 23 (f := .glo "NoText") rfl)
theorem Txt.b_ValueError (T : Txt w K mg) : mg "ValueError" = none := by
  obtain ⟨h, X, G, c⟩ := T.ex
  exact He.free_ok X G (c.t.d.fact 24 (f := .free "ValueError") rfl)
theorem Txt.cl_Kind (T : Txt w K mg) : Cls K (He.ga K "Kind") := by
  obtain ⟨h, X, G, c⟩ := T.ex
  exact He.cls_ok (c.t.d.fact 25 (f := .cls "Kind") rfl)
theorem Txt.n_Kind_name (T : Txt w K mg) : NoAttr K (He.ga K "Kind") "name" := by
  obtain ⟨h, X, G, c⟩ := T.ex
  exact He.noat_ok (c.t.d.fact 26 (f := .noat "Kind" "name") rfl)
theorem Txt.n_Kind_term (T : Txt w K mg) : NoAttr K (He.ga K "Kind") "term" := by
  obtain ⟨h, X, G, c⟩ := T.ex
  exact He.noat_ok (c.t.d.fact 27 (f := .noat "Kind" "term") rfl)
theorem Txt.n_Kind_least (T : Txt w K mg) : NoAttr K (He.ga K "Kind") "least" := by
  obtain ⟨h, X, G, c⟩ := T.ex
  exact He.noat_ok (c.t.d.fact 28 (f := .noat "Kind" "least") rfl)
theorem Txt.v_MOST_PEOPLE (T : Txt w K mg) : ∃ t, mg "MOST_PEOPLE" = some (.int 1000 t) := by
  obtain ⟨h, X, G, c⟩ := T.ex
  exact He.int_ok X G (c.t.d.fact 29 (f := .int "MOST_PEOPLE" 1000) rfl)
theorem Txt.e_NoText (T : Txt w K mg) : ErrC K (He.ga K "NoText") := by
  obtain ⟨h, X, G, c⟩ := T.ex
  exact (fun z => ⟨z.1, z.2.1, z.2.2.1, z.2.2.2⟩ : _ → ErrC K (He.ga K "NoText")) (He.exc_ok (c.t.d.fact 30 (f := .exc "NoText") rfl))
theorem Txt.e_BadKind (T : Txt w K mg) : ErrC K (He.ga K "BadKind") := by
  obtain ⟨h, X, G, c⟩ := T.ex
  exact (fun z => ⟨z.1, z.2.1, z.2.2.1, z.2.2.2⟩ : _ → ErrC K (He.ga K "BadKind")) (He.exc_ok (c.t.d.fact 31 (f := .exc "BadKind") rfl))
theorem Txt.v_MOST_LETTERS (T : Txt w K mg) : ∃ t, mg "MOST_LETTERS" = some (.int 8 t) := by
  obtain ⟨h, X, G, c⟩ := T.ex
  exact He.int_ok X G (c.t.d.fact 32 (f := .int "MOST_LETTERS" 8) rfl)
theorem Txt.v_LETTERS (T : Txt w K mg) : ∃ t, mg "LETTERS" = some (.str "abcdefghijklmnopqrstuvwxyz" t) := by
  obtain ⟨h, X, G, c⟩ := T.ex
  exact He.str_ok X G (c.t.d.fact 33 (f := .str "LETTERS" "abcdefghijklmnopqrstuvwxyz") rfl)
theorem Txt.b_all (T : Txt w K mg) : mg "all" = none := by
  obtain ⟨h, X, G, c⟩ := T.ex
  exact He.free_ok X G (c.t.d.fact 34 (f := .free "all") rfl)
theorem Txt.b_tuple (T : Txt w K mg) : mg "tuple" = none := by
  obtain ⟨h, X, G, c⟩ := T.ex
  exact He.free_ok X G (c.t.d.fact 35 (f := .free "tuple") rfl)
theorem Txt.v_MOST_DAYS (T : Txt w K mg) : ∃ t, mg "MOST_DAYS" = some (.int 100000 t) := by
  obtain ⟨h, X, G, c⟩ := T.ex
  exact He.int_ok X G (c.t.d.fact 36 (f := .int "MOST_DAYS" 100000) rfl)
theorem Txt.b_bool (T : Txt w K mg) : mg "bool" = none := by
  obtain ⟨h, X, G, c⟩ := T.ex
  exact He.free_ok X G (c.t.d.fact 37 (f := .free "bool") rfl)
theorem Txt.v_FIGURES (T : Txt w K mg) : ∃ t, mg "FIGURES" = some (.str "0123456789" t) := by
  obtain ⟨h, X, G, c⟩ := T.ex
  exact He.str_ok X G (c.t.d.fact 38 (f := .str "FIGURES" "0123456789") rfl)
theorem Txt.g__law_draw (T : Txt w K mg) : mg "_law_draw" = some (.ref (He.ga K "_law_draw")) := by
  obtain ⟨h, X, G, c⟩ := T.ex
  exact He.glo_ok X G (c.t.d.fact 39 (f := .glo "_law_draw") rfl)
theorem Txt.g__law_spoiled (T : Txt w K mg) : mg "_law_spoiled" = some (.ref (He.ga K "_law_spoiled")) := by
  obtain ⟨h, X, G, c⟩ := T.ex
  exact He.glo_ok X G (c.t.d.fact 40 (f := .glo "_law_spoiled") rfl)
theorem Txt.g__law_word (T : Txt w K mg) : mg "_law_word" = some (.ref (He.ga K "_law_word")) := by
  obtain ⟨h, X, G, c⟩ := T.ex
  exact He.glo_ok X G (c.t.d.fact 41 (f := .glo "_law_word") rfl)
theorem Txt.g__law_text (T : Txt w K mg) : mg "_law_text" = some (.ref (He.ga K "_law_text")) := by
  obtain ⟨h, X, G, c⟩ := T.ex
  exact He.glo_ok X G (c.t.d.fact 42 (f := .glo "_law_text") rfl)
theorem Txt.g__law_any (T : Txt w K mg) : mg "_law_any" = some (.ref (He.ga K "_law_any")) := by
  obtain ⟨h, X, G, c⟩ := T.ex
  exact He.glo_ok X G (c.t.d.fact 43 (f := .glo "_law_any") rfl)
theorem Txt.g__law_figures (T : Txt w K mg) : mg "_law_figures" = some (.ref (He.ga K "_law_figures")) := by
  obtain ⟨h, X, G, c⟩ := T.ex
  exact He.glo_ok X G (c.t.d.fact 44 (f := .glo "_law_figures") rfl)
theorem Txt.g__law_is_name (T : Txt w K mg) : mg "_law_is_name" = some (.ref (He.ga K "_law_is_name")) := by
  obtain ⟨h, X, G, c⟩ := T.ex
  exact He.glo_ok X G (c.t.d.fact 45 (f := .glo "_law_is_name") rfl)
theorem Txt.g__law_term (T : Txt w K mg) : mg "_law_term" = some (.ref (He.ga K "_law_term")) := by
  obtain ⟨h, X, G, c⟩ := T.ex
  exact He.glo_ok X G (c.t.d.fact 46 (f := .glo "_law_term") rfl)
theorem Txt.g__law_due (T : Txt w K mg) : mg "_law_due" = some (.ref (He.ga K "_law_due")) := by
  obtain ⟨h, X, G, c⟩ := T.ex
  exact He.glo_ok X G (c.t.d.fact 47 (f := .glo "_law_due") rfl)
theorem Txt.g__law_pot (T : Txt w K mg) : mg "_law_pot" = some (.ref (He.ga K "_law_pot")) := by
  obtain ⟨h, X, G, c⟩ := T.ex
  exact He.glo_ok X G (c.t.d.fact 48 (f := .glo "_law_pot") rfl)
theorem Txt.g_is_name (T : Txt w K mg) : mg "is_name" = some (.ref (He.ga K "is_name")) := by
  obtain ⟨h, X, G, c⟩ := T.ex
  exact He.glo_ok X G (c.t.d.fact 49 (f := .glo "is_name") rfl)
theorem Txt.g_is_whole (T : Txt w K mg) : mg "is_whole" = some (.ref (He.ga K "is_whole")) := by
  obtain ⟨h, X, G, c⟩ := T.ex
  exact He.glo_ok X G (c.t.d.fact 50 (f := .glo "is_whole") rfl)
theorem Txt.g_is_term (T : Txt w K mg) : mg "is_term" = some (.ref (He.ga K "is_term")) := by
  obtain ⟨h, X, G, c⟩ := T.ex
  exact He.glo_ok X G (c.t.d.fact 51 (f := .glo "is_term") rfl)
theorem Txt.g_read_figures (T : Txt w K mg) : mg "read_figures" = some (.ref (He.ga K "read_figures")) := by
  obtain ⟨h, X, G, c⟩ := T.ex
  exact He.glo_ok X G (c.t.d.fact 52 (f := .glo "read_figures") rfl)
theorem Txt.g_read_least (T : Txt w K mg) : mg "read_least" = some (.ref (He.ga K "read_least")) := by
  obtain ⟨h, X, G, c⟩ := T.ex
  exact He.glo_ok X G (c.t.d.fact 53 (f := .glo "read_least") rfl)
theorem Txt.g_read_term (T : Txt w K mg) : mg "read_term" = some (.ref (He.ga K "read_term")) := by
  obtain ⟨h, X, G, c⟩ := T.ex
  exact He.glo_ok X G (c.t.d.fact 54 (f := .glo "read_term") rfl)
theorem Txt.g_read_kind (T : Txt w K mg) : mg "read_kind" = some (.ref (He.ga K "read_kind")) := by
  obtain ⟨h, X, G, c⟩ := T.ex
  exact He.glo_ok X G (c.t.d.fact 55 (f := .glo "read_kind") rfl)
theorem Txt.g__law_told (T : Txt w K mg) : mg "_law_told" = some (.ref (He.ga K "_law_told")) := by
  obtain ⟨h, X, G, c⟩ := T.ex
  exact He.glo_ok X G (c.t.d.fact 56 (f := .glo "_law_told") rfl)
theorem Txt.g_law (T : Txt w K mg) : mg "law" = some (.ref (He.ga K "law")) := by
  obtain ⟨h, X, G, c⟩ := T.ex
  exact He.glo_ok X G (c.t.d.fact 57 (f := .glo "law") rfl)
theorem Txt.g_Kind (T : Txt w K mg) : mg "Kind" = some (.ref (He.ga K "Kind")) := by
  obtain ⟨h, X, G, c⟩ := T.ex
  exact He.glo_ok X G (c.t.d.fact 58 (f := .glo "Kind") rfl)
theorem Txt.mk_Kind (T : Txt w K mg) : Mk K (He.ga K "Kind") (He.ma K (He.ga K "Kind") "__init__") := by
  obtain ⟨h, X, G, c⟩ := T.ex
  exact He.mkr_ok (c.t.d.fact 59 (f := .mkr "Kind") rfl)
theorem Txt.dd__law_draw (T : Txt w K mg) : ∃ fd, FunD K "_law_draw" "_law_draw" (defArgs s__law_draw) (defBody s__law_draw) (defScope s__law_draw) [] [] (He.fAd K ("_law_draw", none)) fd := by
  obtain ⟨h, X, G, c⟩ := T.ex
  exact c.t.d.def_ 0 (d := df__law_draw) rfl
theorem Txt.dd__law_spoiled (T : Txt w K mg) : ∃ fd, FunD K "_law_spoiled" "_law_spoiled" (defArgs s__law_spoiled) (defBody s__law_spoiled) (defScope s__law_spoiled) [] [] (He.fAd K ("_law_spoiled", none)) fd := by
  obtain ⟨h, X, G, c⟩ := T.ex
  exact c.t.d.def_ 1 (d := df__law_spoiled) rfl
theorem Txt.dd__law_word (T : Txt w K mg) : ∃ fd, FunD K "_law_word" "_law_word" (defArgs s__law_word) (defBody s__law_word) (defScope s__law_word) [] [] (He.fAd K ("_law_word", none)) fd := by
  obtain ⟨h, X, G, c⟩ := T.ex
  exact c.t.d.def_ 2 (d := df__law_word) rfl
theorem Txt.dd__law_text (T : Txt w K mg) : ∃ fd, FunD K "_law_text" "_law_text" (defArgs s__law_text) (defBody s__law_text) (defScope s__law_text) [] [] (He.fAd K ("_law_text", none)) fd := by
  obtain ⟨h, X, G, c⟩ := T.ex
  exact c.t.d.def_ 3 (d := df__law_text) rfl
theorem Txt.dd__law_any (T : Txt w K mg) : ∃ fd, FunD K "_law_any" "_law_any" (defArgs s__law_any) (defBody s__law_any) (defScope s__law_any) [] [] (He.fAd K ("_law_any", none)) fd := by
  obtain ⟨h, X, G, c⟩ := T.ex
  exact c.t.d.def_ 4 (d := df__law_any) rfl
theorem Txt.dd__law_figures (T : Txt w K mg) : ∃ fd, FunD K "_law_figures" "_law_figures" (defArgs s__law_figures) (defBody s__law_figures) (defScope s__law_figures) [] [] (He.fAd K ("_law_figures", none)) fd := by
  obtain ⟨h, X, G, c⟩ := T.ex
  exact c.t.d.def_ 5 (d := df__law_figures) rfl
theorem Txt.dd__law_is_name (T : Txt w K mg) : ∃ fd, FunD K "_law_is_name" "_law_is_name" (defArgs s__law_is_name) (defBody s__law_is_name) (defScope s__law_is_name) [] [] (He.fAd K ("_law_is_name", none)) fd := by
  obtain ⟨h, X, G, c⟩ := T.ex
  exact c.t.d.def_ 6 (d := df__law_is_name) rfl
theorem Txt.dd__law_term (T : Txt w K mg) : ∃ fd, FunD K "_law_term" "_law_term" (defArgs s__law_term) (defBody s__law_term) (defScope s__law_term) [] [] (He.fAd K ("_law_term", none)) fd := by
  obtain ⟨h, X, G, c⟩ := T.ex
  exact c.t.d.def_ 7 (d := df__law_term) rfl
theorem Txt.dd__law_due (T : Txt w K mg) : ∃ fd, FunD K "_law_due" "_law_due" (defArgs s__law_due) (defBody s__law_due) (defScope s__law_due) [] [] (He.fAd K ("_law_due", none)) fd := by
  obtain ⟨h, X, G, c⟩ := T.ex
  exact c.t.d.def_ 8 (d := df__law_due) rfl
theorem Txt.dd__law_pot (T : Txt w K mg) : ∃ fd, FunD K "_law_pot" "_law_pot" (defArgs s__law_pot) (defBody s__law_pot) (defScope s__law_pot) [] [] (He.fAd K ("_law_pot", none)) fd := by
  obtain ⟨h, X, G, c⟩ := T.ex
  exact c.t.d.def_ 9 (d := df__law_pot) rfl
theorem Txt.dd_is_name (T : Txt w K mg) : ∃ fd, FunD K "is_name" "is_name" (defArgs s_is_name) (defBody s_is_name) (defScope s_is_name) [] [] (He.fAd K ("is_name", none)) fd := by
  obtain ⟨h, X, G, c⟩ := T.ex
  exact c.t.d.def_ 10 (d := df_is_name) rfl
theorem Txt.dd_is_whole (T : Txt w K mg) : ∃ fd, FunD K "is_whole" "is_whole" (defArgs s_is_whole) (defBody s_is_whole) (defScope s_is_whole) [] [] (He.fAd K ("is_whole", none)) fd := by
  obtain ⟨h, X, G, c⟩ := T.ex
  exact c.t.d.def_ 11 (d := df_is_whole) rfl
theorem Txt.dd_is_term (T : Txt w K mg) : ∃ fd, FunD K "is_term" "is_term" (defArgs s_is_term) (defBody s_is_term) (defScope s_is_term) [] [] (He.fAd K ("is_term", none)) fd := by
  obtain ⟨h, X, G, c⟩ := T.ex
  exact c.t.d.def_ 12 (d := df_is_term) rfl
theorem Txt.dd_read_figures (T : Txt w K mg) : ∃ fd, FunD K "read_figures" "read_figures" (defArgs s_read_figures) (defBody s_read_figures) (defScope s_read_figures) [] [] (He.fAd K ("read_figures", none)) fd := by
  obtain ⟨h, X, G, c⟩ := T.ex
  exact c.t.d.def_ 13 (d := df_read_figures) rfl
theorem Txt.dd_read_least (T : Txt w K mg) : ∃ fd, FunD K "read_least" "read_least" (defArgs s_read_least) (defBody s_read_least) (defScope s_read_least) [] [] (He.fAd K ("read_least", none)) fd := by
  obtain ⟨h, X, G, c⟩ := T.ex
  exact c.t.d.def_ 14 (d := df_read_least) rfl
theorem Txt.dd_read_term (T : Txt w K mg) : ∃ fd, FunD K "read_term" "read_term" (defArgs s_read_term) (defBody s_read_term) (defScope s_read_term) [] [] (He.fAd K ("read_term", none)) fd := by
  obtain ⟨h, X, G, c⟩ := T.ex
  exact c.t.d.def_ 15 (d := df_read_term) rfl
theorem Txt.dd_read_kind (T : Txt w K mg) : ∃ fd, FunD K "read_kind" "read_kind" (defArgs s_read_kind) (defBody s_read_kind) (defScope s_read_kind) [] [] (He.fAd K ("read_kind", none)) fd := by
  obtain ⟨h, X, G, c⟩ := T.ex
  exact c.t.d.def_ 16 (d := df_read_kind) rfl
theorem Txt.dd__law_told (T : Txt w K mg) : ∃ fd, FunD K "_law_told" "_law_told" (defArgs s__law_told) (defBody s__law_told) (defScope s__law_told) [] [] (He.fAd K ("_law_told", none)) fd := by
  obtain ⟨h, X, G, c⟩ := T.ex
  exact c.t.d.def_ 17 (d := df__law_told) rfl
theorem Txt.dd_law (T : Txt w K mg) : ∃ fd, FunD K "law" "law" (defArgs s_law) (defBody s_law) (defScope s_law) [] [] (He.fAd K ("law", none)) fd := by
  obtain ⟨h, X, G, c⟩ := T.ex
  exact c.t.d.def_ 18 (d := df_law) rfl
theorem Txt.dd_Kind___init__ (T : Txt w K mg) : ∃ fd, FunD K "__init__" "Kind.__init__" (defArgs s_Kind___init__) (defBody s_Kind___init__) (defScope s_Kind___init__) [.int 0] [] (He.fAd K ("Kind", some "__init__")) fd := by
  obtain ⟨h, X, G, c⟩ := T.ex
  exact c.t.d.def_ 19 (d := df_Kind___init__) rfl
theorem len__law_draw (K : PySem.W.Frag) : ∀ vs H Q E, sp__law_draw K vs H Q E → vs.length = 2 := by
  intro vs H Q E h
  unfold sp__law_draw at h
  split at h <;> first | rfl | exact h.elim
theorem len__law_spoiled (K : PySem.W.Frag) : ∀ vs H Q E, sp__law_spoiled K vs H Q E → vs.length = 2 := by
  intro vs H Q E h
  unfold sp__law_spoiled at h
  split at h <;> first | rfl | exact h.elim
theorem len__law_word (K : PySem.W.Frag) : ∀ vs H Q E, sp__law_word K vs H Q E → vs.length = 1 := by
  intro vs H Q E h
  unfold sp__law_word at h
  split at h <;> first | rfl | exact h.elim
theorem len__law_text (K : PySem.W.Frag) : ∀ vs H Q E, sp__law_text K vs H Q E → vs.length = 1 := by
  intro vs H Q E h
  unfold sp__law_text at h
  split at h <;> first | rfl | exact h.elim
theorem len__law_any (K : PySem.W.Frag) : ∀ vs H Q E, sp__law_any K vs H Q E → vs.length = 1 := by
  intro vs H Q E h
  unfold sp__law_any at h
  split at h <;> first | rfl | exact h.elim
theorem len__law_figures (K : PySem.W.Frag) : ∀ vs H Q E, sp__law_figures K vs H Q E → vs.length = 1 := by
  intro vs H Q E h
  unfold sp__law_figures at h
  split at h <;> first | rfl | exact h.elim
theorem len__law_is_name (K : PySem.W.Frag) : ∀ vs H Q E, sp__law_is_name K vs H Q E → vs.length = 1 := by
  intro vs H Q E h
  unfold sp__law_is_name at h
  split at h <;> first | rfl | exact h.elim
theorem len__law_term (K : PySem.W.Frag) : ∀ vs H Q E, sp__law_term K vs H Q E → vs.length = 1 := by
  intro vs H Q E h
  unfold sp__law_term at h
  split at h <;> first | rfl | exact h.elim
theorem len__law_due (K : PySem.W.Frag) : ∀ vs H Q E, sp__law_due K vs H Q E → vs.length = 1 := by
  intro vs H Q E h
  unfold sp__law_due at h
  split at h <;> first | rfl | exact h.elim
theorem len__law_pot (K : PySem.W.Frag) : ∀ vs H Q E, sp__law_pot K vs H Q E → vs.length = 1 := by
  intro vs H Q E h
  unfold sp__law_pot at h
  split at h <;> first | rfl | exact h.elim
theorem len_is_name (K : PySem.W.Frag) : ∀ vs H Q E, sp_is_name K vs H Q E → vs.length = 1 := by
  intro vs H Q E h
  unfold sp_is_name at h
  split at h <;> first | rfl | exact h.elim
theorem len_is_whole (K : PySem.W.Frag) : ∀ vs H Q E, sp_is_whole K vs H Q E → vs.length = 3 := by
  intro vs H Q E h
  unfold sp_is_whole at h
  split at h <;> first | rfl | exact h.elim
theorem len_is_term (K : PySem.W.Frag) : ∀ vs H Q E, sp_is_term K vs H Q E → vs.length = 1 := by
  intro vs H Q E h
  unfold sp_is_term at h
  split at h <;> first | rfl | exact h.elim
theorem len_Kind___init__ (K : PySem.W.Frag) : ∀ vs H Q E, sp_Kind___init__ K vs H Q E → vs.length = 4 := by
  intro vs H Q E h
  unfold sp_Kind___init__ at h
  split at h <;> first | rfl | exact h.elim
theorem len_read_figures (K : PySem.W.Frag) : ∀ vs H Q E, sp_read_figures K vs H Q E → vs.length = 1 := by
  intro vs H Q E h
  unfold sp_read_figures at h
  split at h <;> first | rfl | exact h.elim
theorem len_read_least (K : PySem.W.Frag) : ∀ vs H Q E, sp_read_least K vs H Q E → vs.length = 1 := by
  intro vs H Q E h
  unfold sp_read_least at h
  split at h <;> first | rfl | exact h.elim
theorem len_read_term (K : PySem.W.Frag) : ∀ vs H Q E, sp_read_term K vs H Q E → vs.length = 1 := by
  intro vs H Q E h
  unfold sp_read_term at h
  split at h <;> first | rfl | exact h.elim
theorem len_read_kind (K : PySem.W.Frag) : ∀ vs H Q E, sp_read_kind K vs H Q E → vs.length = 1 := by
  intro vs H Q E h
  unfold sp_read_kind at h
  split at h <;> first | rfl | exact h.elim
theorem len__law_told (K : PySem.W.Frag) : ∀ vs H Q E, sp__law_told K vs H Q E → vs.length = 1 := by
  intro vs H Q E h
  unfold sp__law_told at h
  split at h <;> first | rfl | exact h.elim
theorem len_law (K : PySem.W.Frag) : ∀ vs H Q E, sp_law K vs H Q E → vs.length = 1 := by
  intro vs H Q E h
  unfold sp_law at h
  split at h <;> first | rfl | exact h.elim
theorem body__law_draw (T : Txt w K mg) {cdv : Value} {A : Around} {outer : List Env} {s : Shared} {H : Hp} {E : XK} (hr : Room 0 (A.deeper (envOfC "_law_draw" (defScope s__law_draw) s.heap.objs.size (He.fAd K ("_law_draw", none)) cdv))) : PSs (cxOf CX0 P w K mg base M__law_draw "_law_draw" (defScope s__law_draw) (He.fAd K ("_law_draw", none)) cdv A outer s H E) (defBody s__law_draw) (t__law_draw K) := by
  
  refine PSs.nox ?_
  exact (pss_cons (ps_if (pt_cmpR op_gt (pe_ix ix_list (pv 0) pe_int (fun _ _ => rfl)) pe_int (nomark _)) (pss_cons (ps_asg (pe_callB call_divmodW (by rfl) (T.b_divmod) (by decide +kernel) (pa_cons (pe_ix ix_list (pv 0) pe_int (fun _ _ => rfl)) (pa_cons (pv 1) pa_nil))) (pg_tup rfl (pgs_cons (pg_sub (pv 0) pe_int set_list) (pgs_cons (pg_name (i := 2) sc__law_draw.nd rfl (by first | exact Or.inl rfl | exact Or.inr rfl)) pgs_nil))))
  (pss_one (ps_ret (pv 2)))) pss_nil)
  (pss_cons (ps_asg (pe_op op_mod (pe_op op_add (pe_op op_mul (pe_ix ix_list (pv 0) pe_int (fun _ _ => rfl)) pe_int) pe_int) pe_int) (pg_sub (pv 0) pe_int set_list))
  (pss_one (ps_ret (pe_op op_mod (pe_op op_fdivW (pe_op op_mod (pe_op op_mul (pe_ix ix_list (pv 0) pe_int (fun _ _ => rfl)) (pe_ix ix_list (pv 0) pe_int (fun _ _ => rfl))) pe_int) pe_int) (pv 1))))))
theorem c__law_draw (T : Txt w K mg) : U.Cal P w K mg base CX0 1 "_law_draw" (sp__law_draw K) [] := by
  obtain ⟨fd, F⟩ := T.dd__law_draw
  have hb : Binds K fd ["_law_pot_here", "_law_many"] [] := F.bindsN (ps := ["_law_pot_here", "_law_many"]) (fun _ _ _ _ _ _ us hl => match us, hl with | [_, _], _ => rfl)
  exact ⟨⟨_, fd, _, [], F.ok (CX := CX0) sc__law_draw (len__law_draw K) (fun cdv A outer s H vs Q E hr h => ⟨t__law_draw K, body__law_draw T hr, pure__law_draw vs H Q E h⟩), T.g__law_draw, F.kp, hb, .nil⟩⟩
theorem body__law_spoiled (T : Txt w K mg) {cdv : Value} {A : Around} {outer : List Env} {s : Shared} {H : Hp} {E : XK} (hr : Room 1 (A.deeper (envOfC "_law_spoiled" (defScope s__law_spoiled) s.heap.objs.size (He.fAd K ("_law_spoiled", none)) cdv))) : PSs (cxOf CX0 P w K mg base M__law_spoiled "_law_spoiled" (defScope s__law_spoiled) (He.fAd K ("_law_spoiled", none)) cdv A outer s H E) (defBody s__law_spoiled) (t__law_spoiled K) := by
  have c__law_draw := c__law_draw (P := P) (base := base) T
  refine PSs.nox ?_
  exact (pss_cons (ps_asg (U.pe_c (E := ES0) c__law_draw hr (by decide) ps0 (by rfl) (pa_cons (pv 1) (pa_cons (pe_op op_add (pe_callB call_len_str (by rfl) (T.b_len) (by decide +kernel) (pa_cons (pv 0) pa_nil)) pe_int) pa_nil))) (pg_name (i := 2) sc__law_spoiled.nd rfl (by first | exact Or.inl rfl | exact Or.inr rfl)))
  (pss_cons (ps_asg (pe_ix ix_str pe_str (U.pe_c (E := ES0) c__law_draw hr (by decide) ps0 (by rfl) (pa_cons (pv 1) (pa_cons pe_int pa_nil))) (fun _ _ => rfl)) (pg_name (i := 3) sc__law_spoiled.nd rfl (by first | exact Or.inl rfl | exact Or.inr rfl)))
  (pss_cons (ps_asg (U.pe_c (E := ES0) c__law_draw hr (by decide) ps0 (by rfl) (pa_cons (pv 1) (pa_cons pe_int pa_nil))) (pg_name (i := 4) sc__law_spoiled.nd rfl (by first | exact Or.inl rfl | exact Or.inr rfl)))
  (pss_cons (ps_if (pt_cmpR op_eq (pv 4) pe_int (nomark _)) (pss_one (ps_ret (pe_op op_add_str (pe_op op_add_str (pe_slice sl_str (pv 0) po_none (po_some (pv 2))) (pv 3)) (pe_slice sl_str (pv 0) (po_some (pv 2)) po_none)))) pss_nil)
  (pss_cons (ps_if (pt_cmpR op_eq (pv 4) pe_int (nomark _)) (pss_one (ps_ret (pe_op op_add_str (pe_slice sl_str (pv 0) po_none (po_some (pv 2))) (pe_slice sl_str (pv 0) (po_some (pe_op op_add (pv 2) pe_int)) po_none)))) pss_nil)
  (pss_cons (ps_if (pt_cmpR op_eq (pv 4) pe_int (nomark _)) (pss_one (ps_ret (pe_op op_add_str (pe_op op_add_str (pe_slice sl_str (pv 0) po_none (po_some (pv 2))) (pv 3)) (pe_slice sl_str (pv 0) (po_some (pe_op op_add (pv 2) pe_int)) po_none)))) pss_nil)
  (pss_cons (ps_asg (pe_ix ix_list (pe_lst (pa_cons pe_str (pa_cons pe_str (pa_cons pe_str (pa_cons pe_str (pa_cons pe_str (pa_cons pe_str (pa_cons pe_str (pa_cons pe_str (pa_cons pe_str pa_nil)))))))))) (U.pe_c (E := ES0) c__law_draw hr (by decide) ps0 (by rfl) (pa_cons (pv 1) (pa_cons pe_int pa_nil))) (fun _ _ => rfl)) (pg_name (i := 5) sc__law_spoiled.nd rfl (by first | exact Or.inl rfl | exact Or.inr rfl)))
  (pss_one (ps_ret (pe_op op_add_str (pe_op op_add_str (pe_slice sl_str (pv 0) po_none (po_some (pv 2))) (pv 5)) (pe_slice sl_str (pv 0) (po_some (pv 2)) po_none)))))))))))
theorem c__law_spoiled (T : Txt w K mg) : U.Cal P w K mg base CX0 2 "_law_spoiled" (sp__law_spoiled K) [] := by
  obtain ⟨fd, F⟩ := T.dd__law_spoiled
  have hb : Binds K fd ["_law_text_here", "_law_pot_here"] [] := F.bindsN (ps := ["_law_text_here", "_law_pot_here"]) (fun _ _ _ _ _ _ us hl => match us, hl with | [_, _], _ => rfl)
  exact ⟨⟨_, fd, _, [], F.ok (CX := CX0) sc__law_spoiled (len__law_spoiled K) (fun cdv A outer s H vs Q E hr h => ⟨t__law_spoiled K, body__law_spoiled T hr, pure__law_spoiled vs H Q E h⟩), T.g__law_spoiled, F.kp, hb, .nil⟩⟩
theorem body__law_word (T : Txt w K mg) {cdv : Value} {A : Around} {outer : List Env} {s : Shared} {H : Hp} {E : XK} (hr : Room 1 (A.deeper (envOfC "_law_word" (defScope s__law_word) s.heap.objs.size (He.fAd K ("_law_word", none)) cdv))) : PSs (cxOf CX0 P w K mg base M__law_word "_law_word" (defScope s__law_word) (He.fAd K ("_law_word", none)) cdv A outer s H E) (defBody s__law_word) (t__law_word K) := by
  have c__law_draw := c__law_draw (P := P) (base := base) T
  refine PSs.nox ?_
  exact (pss_one (ps_ret (pe_m1 PySem.F.slot_str_join PySem.F.type_str_join mt_join pe_str (pe_lc (own := [("_law_k", 1)]) (g := (gName 1)) (tt := tYes) rfl sc__law_word.nd (pi_range1 (by rfl) (T.b_range) (pa_cons (pe_op op_add pe_int (U.pe_c (E := ES0) c__law_draw hr (by decide) ps0 (by rfl) (pa_cons (pv 0) (pa_cons pe_int pa_nil)))) pa_nil)) (blkOk_by (N := M__law_word) (sc := defScope s__law_word) (own := [("_law_k", 1)]) (by decide +kernel)) (fun _ _ _ _ _ => (pg_name (i := 1) sc__law_word.nd rfl (by first | exact Or.inl rfl | exact Or.inr rfl))) (fun _ _ _ _ _ => pts_nil) (fun _ _ _ _ _ => (pe_ix ix_str pe_str (U.pe_c (E := ES0) c__law_draw hr (by decide) ps0 (by rfl) (pa_cons (pv 0) (pa_cons pe_int pa_nil))) (fun _ _ => rfl)))))))
theorem c__law_word (T : Txt w K mg) : U.Cal P w K mg base CX0 2 "_law_word" (sp__law_word K) [] := by
  obtain ⟨fd, F⟩ := T.dd__law_word
  have hb : Binds K fd ["_law_pot_here"] [] := F.bindsN (ps := ["_law_pot_here"]) (fun _ _ _ _ _ _ us hl => match us, hl with | [_], _ => rfl)
  exact ⟨⟨_, fd, _, [], F.ok (CX := CX0) sc__law_word (len__law_word K) (fun cdv A outer s H vs Q E hr h => ⟨t__law_word K, body__law_word T hr, pure__law_word vs H Q E h⟩), T.g__law_word, F.kp, hb, .nil⟩⟩
theorem body__law_text (T : Txt w K mg) {cdv : Value} {A : Around} {outer : List Env} {s : Shared} {H : Hp} {E : XK} (hr : Room 2 (A.deeper (envOfC "_law_text" (defScope s__law_text) s.heap.objs.size (He.fAd K ("_law_text", none)) cdv))) : PSs (cxOf CX0 P w K mg base M__law_text "_law_text" (defScope s__law_text) (He.fAd K ("_law_text", none)) cdv A outer s H E) (defBody s__law_text) (t__law_text K) := by
  have c__law_draw := c__law_draw (P := P) (base := base) T
  have c__law_word := c__law_word (P := P) (base := base) T
  refine PSs.nox ?_
  exact (pss_cons (ps_asg (U.pe_c (E := ES0) c__law_draw hr (by decide) ps0 (by rfl) (pa_cons (pv 0) (pa_cons (pe_ix ix_list (pe_lst (pa_cons pe_int (pa_cons pe_int pa_nil))) (U.pe_c (E := ES0) c__law_draw hr (by decide) ps0 (by rfl) (pa_cons (pv 0) (pa_cons pe_int pa_nil))) (fun _ _ => rfl)) pa_nil))) (pg_name (i := 1) sc__law_text.nd rfl (by first | exact Or.inl rfl | exact Or.inr rfl)))
  (pss_cons (ps_asg (U.pe_c (E := ES0) c__law_draw hr (by decide) ps0 (by rfl) (pa_cons (pv 0) (pa_cons (pe_ix ix_list (pe_lst (pa_cons pe_int (pa_cons pe_int pa_nil))) (U.pe_c (E := ES0) c__law_draw hr (by decide) ps0 (by rfl) (pa_cons (pv 0) (pa_cons pe_int pa_nil))) (fun _ _ => rfl)) pa_nil))) (pg_name (i := 2) sc__law_text.nd rfl (by first | exact Or.inl rfl | exact Or.inr rfl)))
  (pss_cons (ps_asg (pe_ix ix_list (pe_lst (pa_cons pe_str (pa_cons (pe_op op_add_str (pe_callTy call_str_int (by rfl) (T.b_str) (by decide +kernel) (pa_cons (pv 1) pa_nil)) pe_str) (pa_cons (pe_op op_add_str (pe_callTy call_str_int (by rfl) (T.b_str) (by decide +kernel) (pa_cons (pv 1) pa_nil)) pe_str) pa_nil)))) (U.pe_c (E := ES0) c__law_draw hr (by decide) ps0 (by rfl) (pa_cons (pv 0) (pa_cons pe_int pa_nil))) (fun _ _ => rfl)) (pg_name (i := 3) sc__law_text.nd rfl (by first | exact Or.inl rfl | exact Or.inr rfl)))
  (pss_one (ps_ret (pe_op op_add_str (pe_op op_add_str (pe_op op_add_str (U.pe_c (E := ES0) c__law_word hr (by decide) ps0 (by rfl) (pa_cons (pv 0) pa_nil)) pe_str) (pv 3)) (pe_ix ix_list (pe_lst (pa_cons pe_str (pa_cons (pe_op op_add_str (pe_op op_add_str pe_str (pe_callTy call_str_int (by rfl) (T.b_str) (by decide +kernel) (pa_cons (pv 2) pa_nil))) pe_str) pa_nil))) (U.pe_c (E := ES0) c__law_draw hr (by decide) ps0 (by rfl) (pa_cons (pv 0) (pa_cons pe_int pa_nil))) (fun _ _ => rfl))))))))
theorem c__law_text (T : Txt w K mg) : U.Cal P w K mg base CX0 3 "_law_text" (sp__law_text K) [] := by
  obtain ⟨fd, F⟩ := T.dd__law_text
  have hb : Binds K fd ["_law_pot_here"] [] := F.bindsN (ps := ["_law_pot_here"]) (fun _ _ _ _ _ _ us hl => match us, hl with | [_], _ => rfl)
  exact ⟨⟨_, fd, _, [], F.ok (CX := CX0) sc__law_text (len__law_text K) (fun cdv A outer s H vs Q E hr h => ⟨t__law_text K, body__law_text T hr, pure__law_text vs H Q E h⟩), T.g__law_text, F.kp, hb, .nil⟩⟩
theorem body__law_any (T : Txt w K mg) {cdv : Value} {A : Around} {outer : List Env} {s : Shared} {H : Hp} {E : XK} (hr : Room 3 (A.deeper (envOfC "_law_any" (defScope s__law_any) s.heap.objs.size (He.fAd K ("_law_any", none)) cdv))) : PSs (cxOf CX0 P w K mg base M__law_any "_law_any" (defScope s__law_any) (He.fAd K ("_law_any", none)) cdv A outer s H E) (defBody s__law_any) (t__law_any K) := by
  have c__law_draw := c__law_draw (P := P) (base := base) T
  have c__law_spoiled := c__law_spoiled (P := P) (base := base) T
  have c__law_text := c__law_text (P := P) (base := base) T
  refine PSs.nox ?_
  exact (pss_cons (ps_asg (U.pe_c (E := ES0) c__law_draw hr (by decide) ps0 (by rfl) (pa_cons (pv 0) (pa_cons pe_int pa_nil))) (pg_name (i := 1) sc__law_any.nd rfl (by first | exact Or.inl rfl | exact Or.inr rfl)))
  (pss_cons (ps_if (pt_cmpR op_eq (pv 1) pe_int (nomark _)) (pss_one (ps_ret (pe_ix ix_list (pe_lst (pa_cons pe_non (pa_cons pe_int (pa_cons pe_bl (pa_cons (pe_lst pa_nil) (pa_cons (pe_tup (pa_cons pe_str pa_nil)) (pa_cons pe_str (pa_cons (pe_lst (pa_cons pe_str pa_nil)) (pa_cons (pe_dnewK) pa_nil))))))))) (U.pe_c (E := ES0) c__law_draw hr (by decide) ps0 (by rfl) (pa_cons (pv 0) (pa_cons pe_int pa_nil))) (fun _ _ => rfl)))) pss_nil)
  (pss_cons (ps_if (pt_cmpR op_eq (pv 1) pe_int (nomark _)) (pss_cons (ps_asg (pe_lst (pa_cons pe_str (pa_cons pe_str (pa_cons pe_str (pa_cons pe_str (pa_cons pe_str (pa_cons pe_str (pa_cons pe_str (pa_cons pe_str (pa_cons pe_str (pa_cons pe_str pa_nil))))))))))) (pg_name (i := 2) sc__law_any.nd rfl (by first | exact Or.inl rfl | exact Or.inr rfl)))
  (pss_one (ps_ret (pe_m1 PySem.F.slot_str_join PySem.F.type_str_join mt_join pe_str (pe_lc (own := [("_law_k", 5)]) (g := (gName 5)) (tt := tYes) rfl sc__law_any.nd (pi_range1 (by rfl) (T.b_range) (pa_cons (U.pe_c (E := ES0) c__law_draw hr (by decide) ps0 (by rfl) (pa_cons (pv 0) (pa_cons pe_int pa_nil))) pa_nil)) (blkOk_by (N := M__law_any) (sc := defScope s__law_any) (own := [("_law_k", 5)]) (by decide +kernel)) (fun _ _ _ _ _ => (pg_name (i := 5) sc__law_any.nd rfl (by first | exact Or.inl rfl | exact Or.inr rfl))) (fun _ _ _ _ _ => pts_nil) (fun _ _ _ _ _ => (pe_ix ix_list (pv 2) (U.pe_c (E := ES0) c__law_draw hr (by decide) ps0 (by rfl) (pa_cons (pv 0) (pa_cons pe_int pa_nil))) (fun _ _ => rfl)))))))) pss_nil)
  (pss_cons (ps_asg (U.pe_c (E := ES0) c__law_text hr (by decide) ps0 (by rfl) (pa_cons (pv 0) pa_nil)) (pg_name (i := 3) sc__law_any.nd rfl (by first | exact Or.inl rfl | exact Or.inr rfl)))
  (pss_cons (ps_for PassesOwn.never rfl (pi_range1 (by rfl) (T.b_range) (pa_cons (U.pe_c (E := ES0) c__law_draw hr (by decide) ps0 (by rfl) (pa_cons (pv 0) (pa_cons pe_int pa_nil))) pa_nil)) (pg_name (i := 4) sc__law_any.nd rfl (by first | exact Or.inl rfl | exact Or.inr rfl)) (pss_one (ps_asg (U.pe_c (E := ES0) c__law_spoiled hr (by decide) ps0 (by rfl) (pa_cons (pv 3) (pa_cons (pv 0) pa_nil))) (pg_name (i := 3) sc__law_any.nd rfl (by first | exact Or.inl rfl | exact Or.inr rfl)))))
  (pss_one (ps_ret (pv 3))))))))
theorem c__law_any (T : Txt w K mg) : U.Cal P w K mg base CX0 4 "_law_any" (sp__law_any K) [] := by
  obtain ⟨fd, F⟩ := T.dd__law_any
  have hb : Binds K fd ["_law_pot_here"] [] := F.bindsN (ps := ["_law_pot_here"]) (fun _ _ _ _ _ _ us hl => match us, hl with | [_], _ => rfl)
  exact ⟨⟨_, fd, _, [], F.ok (CX := CX0) sc__law_any (len__law_any K) (fun cdv A outer s H vs Q E hr h => ⟨t__law_any K, body__law_any T hr, pure__law_any vs H Q E h⟩), T.g__law_any, F.kp, hb, .nil⟩⟩
theorem body__law_figures (T : Txt w K mg) {cdv : Value} {A : Around} {outer : List Env} {s : Shared} {H : Hp} {E : XK} (hr : Room 0 (A.deeper (envOfC "_law_figures" (defScope s__law_figures) s.heap.objs.size (He.fAd K ("_law_figures", none)) cdv))) : PSs (cxOf CX0 P w K mg base M__law_figures "_law_figures" (defScope s__law_figures) (He.fAd K ("_law_figures", none)) cdv A outer s H E) (defBody s__law_figures) (t__law_figures K) := by
  
  refine PSs.nox ?_
  exact (pss_cons (ps_if (PW.pt (pw_or (pt_cmpR op_eq (pv 0) pe_str (nomark _)) (pw_or (pt_cmpR op_gt (pe_callB call_len_str (by rfl) (T.b_len) (by decide +kernel) (pa_cons (pv 0) pa_nil)) pe_int (nomark _)) (pw_or1 (pt_cmpR (op_neD hr.units) (pe_lc (own := [("_law_sign", 1)]) (g := (gName 1)) (tt := (tTest (tOp rNiSg (tVar 1) (tC (.str "0123456789"))))) rfl sc__law_figures.nd (pi_str (pv 0)) (blkOk_by (N := M__law_figures) (sc := defScope s__law_figures) (own := [("_law_sign", 1)]) (by decide +kernel)) (fun _ _ _ _ _ => (pg_name (i := 1) sc__law_figures.nd rfl (by first | exact Or.inl rfl | exact Or.inr rfl))) (fun _ _ _ _ _ => (pts_one (pt_cmpR op_notIn_sign (pv 1) pe_str (by rfl)))) (fun _ _ _ _ _ => (pv 1))) (pe_lst pa_nil) (nomark _)))))) (pss_one (ps_ret pe_non)) pss_nil)
  (pss_cons (ps_if (PW.pt (pw_and (pt_cmpR op_eq (pe_ix ix_str (pv 0) pe_int (fun _ _ => rfl)) pe_str (nomark _)) (pw_and1 (pt_cmpR op_gt (pe_callB call_len_str (by rfl) (T.b_len) (by decide +kernel) (pa_cons (pv 0) pa_nil)) pe_int (nomark _))))) (pss_one (ps_ret pe_non)) pss_nil)
  (pss_one (ps_ret (pe_callTy call_int_str (by rfl) (T.b_int) (by decide +kernel) (pa_cons (pv 0) pa_nil))))))
theorem c__law_figures (T : Txt w K mg) : U.Cal P w K mg base CX0 1 "_law_figures" (sp__law_figures K) [] := by
  obtain ⟨fd, F⟩ := T.dd__law_figures
  have hb : Binds K fd ["_law_text_here"] [] := F.bindsN (ps := ["_law_text_here"]) (fun _ _ _ _ _ _ us hl => match us, hl with | [_], _ => rfl)
  exact ⟨⟨_, fd, _, [], F.ok (CX := CX0) sc__law_figures (len__law_figures K) (fun cdv A outer s H vs Q E hr h => ⟨t__law_figures K, body__law_figures T hr, pure__law_figures vs H Q E h⟩), T.g__law_figures, F.kp, hb, .nil⟩⟩
theorem body__law_is_name (T : Txt w K mg) {cdv : Value} {A : Around} {outer : List Env} {s : Shared} {H : Hp} {E : XK} (hr : Room 0 (A.deeper (envOfC "_law_is_name" (defScope s__law_is_name) s.heap.objs.size (He.fAd K ("_law_is_name", none)) cdv))) : PSs (cxOf CX0 P w K mg base M__law_is_name "_law_is_name" (defScope s__law_is_name) (He.fAd K ("_law_is_name", none)) cdv A outer s H E) (defBody s__law_is_name) (t__law_is_name K) := by
  
  refine PSs.nox ?_
  exact (pss_cons (ps_if (PW.pt (pw_or (pt_not (pt_val (pe_callB call_isi (by rfl) (T.b_isinstance) (by decide +kernel) (pa_cons (pv 0) (pa_cons (pe_ty (by rfl) (T.b_str) (by decide +kernel)) pa_nil))))) (pw_or (pt_cmpR op_lt (pe_callB call_len_str (by rfl) (T.b_len) (by decide +kernel) (pa_cons (pv 0) pa_nil)) pe_int (nomark _)) (pw_or1 (pt_cmpR op_gt (pe_callB call_len_str (by rfl) (T.b_len) (by decide +kernel) (pa_cons (pv 0) pa_nil)) pe_int (nomark _)))))) (pss_one (ps_ret pe_bl)) pss_nil)
  (pss_one (ps_ret (pe_cmpR (op_eqD hr.units) (pe_lc (own := [("_law_sign", 1)]) (g := (gName 1)) (tt := (tTest (tOp rNiSg (tVar 1) (tC (.str "abcdefghijklmnopqrstuvwxyz"))))) rfl sc__law_is_name.nd (pi_str (pv 0)) (blkOk_by (N := M__law_is_name) (sc := defScope s__law_is_name) (own := [("_law_sign", 1)]) (by decide +kernel)) (fun _ _ _ _ _ => (pg_name (i := 1) sc__law_is_name.nd rfl (by first | exact Or.inl rfl | exact Or.inr rfl))) (fun _ _ _ _ _ => (pts_one (pt_cmpR op_notIn_sign (pv 1) pe_str (by rfl)))) (fun _ _ _ _ _ => (pv 1))) (pe_lst pa_nil) (nomark _)))))
theorem c__law_is_name (T : Txt w K mg) : U.Cal P w K mg base CX0 1 "_law_is_name" (sp__law_is_name K) [] := by
  obtain ⟨fd, F⟩ := T.dd__law_is_name
  have hb : Binds K fd ["_law_thing"] [] := F.bindsN (ps := ["_law_thing"]) (fun _ _ _ _ _ _ us hl => match us, hl with | [_], _ => rfl)
  exact ⟨⟨_, fd, _, [], F.ok (CX := CX0) sc__law_is_name (len__law_is_name K) (fun cdv A outer s H vs Q E hr h => ⟨t__law_is_name K, body__law_is_name T hr, pure__law_is_name vs H Q E h⟩), T.g__law_is_name, F.kp, hb, .nil⟩⟩
theorem body__law_term (T : Txt w K mg) {cdv : Value} {A : Around} {outer : List Env} {s : Shared} {H : Hp} {E : XK} (hr : Room 1 (A.deeper (envOfC "_law_term" (defScope s__law_term) s.heap.objs.size (He.fAd K ("_law_term", none)) cdv))) : PSs (cxOf CX0 P w K mg base M__law_term "_law_term" (defScope s__law_term) (He.fAd K ("_law_term", none)) cdv A outer s H E) (defBody s__law_term) (t__law_term K) := by
  have c__law_figures := c__law_figures (P := P) (base := base) T
  refine PSs.nox ?_
  exact (pss_cons (ps_if (pt_cmpR op_eq (pv 0) pe_str (nomark _)) (pss_one (ps_ret (pe_tup (pa_cons pe_str pa_nil)))) pss_nil)
  (pss_cons (ps_for PassesOwn.never rfl (pi_list (pe_lst (pa_cons (pe_tup (pa_cons pe_str (pa_cons pe_str (pa_cons pe_int pa_nil)))) (pa_cons (pe_tup (pa_cons pe_str (pa_cons pe_str (pa_cons pe_int pa_nil)))) pa_nil)))) (pg_tup rfl (pgs_cons (pg_name (i := 1) sc__law_term.nd rfl (by first | exact Or.inl rfl | exact Or.inr rfl)) (pgs_cons (pg_name (i := 2) sc__law_term.nd rfl (by first | exact Or.inl rfl | exact Or.inr rfl)) (pgs_cons (pg_name (i := 3) sc__law_term.nd rfl (by first | exact Or.inl rfl | exact Or.inr rfl)) pgs_nil)))) (pss_one (ps_if (pt_cmpR op_eq (pe_slice sl_str (pv 0) (po_some (pe_un un_neg (pe_callB call_len_str (by rfl) (T.b_len) (by decide +kernel) (pa_cons (pv 1) pa_nil)))) po_none) (pv 1) (nomark _)) (pss_cons (ps_asg (U.pe_c (E := ES0) c__law_figures hr (by decide) ps0 (by rfl) (pa_cons (pe_slice sl_str (pv 0) po_none (po_some (pe_un un_neg (pe_callB call_len_str (by rfl) (T.b_len) (by decide +kernel) (pa_cons (pv 1) pa_nil))))) pa_nil)) (pg_name (i := 4) sc__law_term.nd rfl (by first | exact Or.inl rfl | exact Or.inr rfl)))
  (pss_cons (ps_if (PW.pt (pw_or (pt_cmpR op_isN (pv 4) pe_non (nomark _)) (pw_or (pt_cmpR op_lt (pv 4) (pv 3) (nomark _)) (pw_or1 (pt_cmpR op_gt (pv 4) pe_int (nomark _)))))) (pss_one (ps_ret pe_non)) pss_nil)
  (pss_one (ps_ret (pe_tup (pa_cons (pv 2) (pa_cons (pv 4) pa_nil))))))) pss_nil)))
  (pss_one (ps_ret pe_non))))
theorem c__law_term (T : Txt w K mg) : U.Cal P w K mg base CX0 2 "_law_term" (sp__law_term K) [] := by
  obtain ⟨fd, F⟩ := T.dd__law_term
  have hb : Binds K fd ["_law_text_here"] [] := F.bindsN (ps := ["_law_text_here"]) (fun _ _ _ _ _ _ us hl => match us, hl with | [_], _ => rfl)
  exact ⟨⟨_, fd, _, [], F.ok (CX := CX0) sc__law_term (len__law_term K) (fun cdv A outer s H vs Q E hr h => ⟨t__law_term K, body__law_term T hr, pure__law_term vs H Q E h⟩), T.g__law_term, F.kp, hb, .nil⟩⟩
theorem body__law_due (T : Txt w K mg) {cdv : Value} {A : Around} {outer : List Env} {s : Shared} {H : Hp} {E : XK} (hr : Room 2 (A.deeper (envOfC "_law_due" (defScope s__law_due) s.heap.objs.size (He.fAd K ("_law_due", none)) cdv))) : PSs (cxOf CX0 P w K mg base M__law_due "_law_due" (defScope s__law_due) (He.fAd K ("_law_due", none)) cdv A outer s H E) (defBody s__law_due) (t__law_due K) := by
  have c__law_figures := c__law_figures (P := P) (base := base) T
  have c__law_is_name := c__law_is_name (P := P) (base := base) T
  have c__law_term := c__law_term (P := P) (base := base) T
  refine PSs.nox ?_
  exact (pss_cons (ps_asg (pe_m1 PySem.F.slot_str_find PySem.F.type_str_find mt_find (pv 0) pe_str) (pg_name (i := 1) sc__law_due.nd rfl (by first | exact Or.inl rfl | exact Or.inr rfl)))
  (pss_cons (ps_asg (pe_m1 PySem.F.slot_str_split PySem.F.type_str_split mt_split (pe_slice sl_str (pv 0) (po_some (pe_op op_add (pv 1) pe_int)) po_none) pe_str) (pg_name (i := 2) sc__law_due.nd rfl (by first | exact Or.inl rfl | exact Or.inr rfl)))
  (pss_cons (ps_asg (U.pe_c (E := ES0) c__law_term hr (by decide) ps0 (by rfl) (pa_cons (pe_ix ix_list (pv 2) pe_int (fun _ _ => rfl)) pa_nil)) (pg_name (i := 3) sc__law_due.nd rfl (by first | exact Or.inl rfl | exact Or.inr rfl)))
  (pss_cons (ps_asg pe_int (pg_name (i := 4) sc__law_due.nd rfl (by first | exact Or.inl rfl | exact Or.inr rfl)))
  (pss_cons (ps_if (PW.pt (pw_or (pt_cmpR op_lt (pv 1) pe_int (nomark _)) (pw_or (pt_not (pt_val (U.pe_c (E := ES0) c__law_is_name hr (by decide) ps0 (by rfl) (pa_cons (pe_slice sl_str (pv 0) po_none (po_some (pv 1))) pa_nil)))) (pw_or (pt_cmpR op_isN (pv 3) pe_non (nomark _)) (pw_or1 (pt_cmpR op_gt (pe_callB call_len_seq (by rfl) (T.b_len) (by decide +kernel) (pa_cons (pv 2) pa_nil)) pe_int (nomark _))))))) (pss_one (ps_ret pe_non)) pss_nil)
  (pss_cons (ps_if (pt_cmpR op_eq (pe_callB call_len_seq (by rfl) (T.b_len) (by decide +kernel) (pa_cons (pv 2) pa_nil)) pe_int (nomark _)) (pss_cons (ps_asg (U.pe_c (E := ES0) c__law_figures hr (by decide) ps0 (by rfl) (pa_cons (pe_slice sl_str (pe_ix ix_list (pv 2) pe_int (fun _ _ => rfl)) po_none (po_some (pe_un un_neg pe_int))) pa_nil)) (pg_name (i := 4) sc__law_due.nd rfl (by first | exact Or.inl rfl | exact Or.inr rfl)))
  (pss_one (ps_if (PW.pt (pw_or (pt_cmpR op_ne (pe_slice sl_str (pe_ix ix_list (pv 2) pe_int (fun _ _ => rfl)) (po_some (pe_un un_neg pe_int)) po_none) pe_str (nomark _)) (pw_or (pt_cmpR op_isN (pv 4) pe_non (nomark _)) (pw_or (pt_cmpR op_lt (pv 4) pe_int (nomark _)) (pw_or1 (pt_cmpR op_gt (pv 4) pe_int (nomark _))))))) (pss_one (ps_ret pe_non)) pss_nil))) pss_nil)
  (pss_one (ps_ret (pe_tup (pa_cons (pe_slice sl_str (pv 0) po_none (po_some (pv 1))) (pa_cons (pv 3) (pa_cons (pv 4) pa_nil))))))))))))
theorem c__law_due (T : Txt w K mg) : U.Cal P w K mg base CX0 3 "_law_due" (sp__law_due K) [] := by
  obtain ⟨fd, F⟩ := T.dd__law_due
  have hb : Binds K fd ["_law_text_here"] [] := F.bindsN (ps := ["_law_text_here"]) (fun _ _ _ _ _ _ us hl => match us, hl with | [_], _ => rfl)
  exact ⟨⟨_, fd, _, [], F.ok (CX := CX0) sc__law_due (len__law_due K) (fun cdv A outer s H vs Q E hr h => ⟨t__law_due K, body__law_due T hr, pure__law_due vs H Q E h⟩), T.g__law_due, F.kp, hb, .nil⟩⟩
theorem body__law_pot (T : Txt w K mg) {cdv : Value} {A : Around} {outer : List Env} {s : Shared} {H : Hp} {E : XK} (hr : Room 0 (A.deeper (envOfC "_law_pot" (defScope s__law_pot) s.heap.objs.size (He.fAd K ("_law_pot", none)) cdv))) : PSs (cxOf CX0 P w K mg base M__law_pot "_law_pot" (defScope s__law_pot) (He.fAd K ("_law_pot", none)) cdv A outer s H E) (defBody s__law_pot) (t__law_pot K) := by
  
  refine PSs.nox ?_
  exact (pss_one (ps_ret (pe_lst (pa_cons (pe_callB (call_max2 rfl) (by rfl) (T.b_max) (by decide +kernel) (pa_cons pe_int (pa_cons (pe_op op_sub (pe_callB call_abs (by rfl) (T.b_abs) (by decide +kernel) (pa_cons (pv 0) pa_nil)) (pe_op op_pow pe_int pe_int)) pa_nil))) (pa_cons (pe_op op_add (pe_op op_mod (pe_callB call_abs (by rfl) (T.b_abs) (by decide +kernel) (pa_cons (pv 0) pa_nil)) pe_int) pe_int) pa_nil)))))
theorem c__law_pot (T : Txt w K mg) : U.Cal P w K mg base CX0 1 "_law_pot" (sp__law_pot K) [] := by
  obtain ⟨fd, F⟩ := T.dd__law_pot
  have hb : Binds K fd ["_law_cell_here"] [] := F.bindsN (ps := ["_law_cell_here"]) (fun _ _ _ _ _ _ us hl => match us, hl with | [_], _ => rfl)
  exact ⟨⟨_, fd, _, [], F.ok (CX := CX0) sc__law_pot (len__law_pot K) (fun cdv A outer s H vs Q E hr h => ⟨t__law_pot K, body__law_pot T hr, pure__law_pot vs H Q E h⟩), T.g__law_pot, F.kp, hb, .nil⟩⟩
theorem body_is_name (T : Txt w K mg) {cdv : Value} {A : Around} {outer : List Env} {s : Shared} {H : Hp} {E : XK} (hr : Room 0 (A.deeper (envOfC "is_name" (defScope s_is_name) s.heap.objs.size (He.fAd K ("is_name", none)) cdv))) : PSs (cxOf CX0 P w K mg base M_is_name "is_name" (defScope s_is_name) (He.fAd K ("is_name", none)) cdv A outer s H E) (defBody s_is_name) (t_is_name K) := by
  
  refine PSs.nox ?_
  exact (pss_cons (ps_if (PW.pt (pw_or (pt_not (pt_val (pe_callB call_isi (by rfl) (T.b_isinstance) (by decide +kernel) (pa_cons (pv 0) (pa_cons (pe_ty (by rfl) (T.b_str) (by decide +kernel)) pa_nil))))) (pw_or (pt_cmpR op_eq (pv 0) pe_str (nomark _)) (pw_or1 (pt_cmpR op_gt (pe_callB call_len_str (by rfl) (T.b_len) (by decide +kernel) (pa_cons (pv 0) pa_nil)) (pe_gi (by rfl) T.v_MOST_LETTERS) (nomark _)))))) (pss_one (ps_ret pe_bl)) pss_nil)
  (pss_one (ps_ret (pe_callB (cr_all rfl) (by rfl) (T.b_all) (by decide +kernel) (pa_cons (pe_lc (own := [("letter", 1)]) (g := (gName 1)) (tt := tYes) rfl sc_is_name.nd (pi_str (pv 0)) (blkOk_by (N := M_is_name) (sc := defScope s_is_name) (own := [("letter", 1)]) (by decide +kernel)) (fun _ _ _ _ _ => (pg_name (i := 1) sc_is_name.nd rfl (by first | exact Or.inl rfl | exact Or.inr rfl))) (fun _ _ _ _ _ => pts_nil) (fun _ _ _ _ _ => (pe_cmpR op_in_sign (pv 1) (pe_gs (by rfl) T.v_LETTERS) (by rfl)))) pa_nil)))))
theorem c_is_name (T : Txt w K mg) : U.Cal P w K mg base CX0 1 "is_name" (sp_is_name K) [] := by
  obtain ⟨fd, F⟩ := T.dd_is_name
  have hb : Binds K fd ["thing"] [] := F.bindsN (ps := ["thing"]) (fun _ _ _ _ _ _ us hl => match us, hl with | [_], _ => rfl)
  exact ⟨⟨_, fd, _, [], F.ok (CX := CX0) sc_is_name (len_is_name K) (fun cdv A outer s H vs Q E hr h => ⟨t_is_name K, body_is_name T hr, pure_is_name vs H Q E h⟩), T.g_is_name, F.kp, hb, .nil⟩⟩
theorem body_is_whole (T : Txt w K mg) {cdv : Value} {A : Around} {outer : List Env} {s : Shared} {H : Hp} {E : XK} (hr : Room 0 (A.deeper (envOfC "is_whole" (defScope s_is_whole) s.heap.objs.size (He.fAd K ("is_whole", none)) cdv))) : PSs (cxOf CX0 P w K mg base M_is_whole "is_whole" (defScope s_is_whole) (He.fAd K ("is_whole", none)) cdv A outer s H E) (defBody s_is_whole) (t_is_whole K) := by
  
  refine PSs.nox ?_
  exact (pss_cons (ps_if (PW.pt (pw_or (pt_not (pt_val (pe_callB call_isi (by rfl) (T.b_isinstance) (by decide +kernel) (pa_cons (pv 0) (pa_cons (pe_ty (by rfl) (T.b_int) (by decide +kernel)) pa_nil))))) (pw_or1 (pt_val (pe_callB call_isi (by rfl) (T.b_isinstance) (by decide +kernel) (pa_cons (pv 0) (pa_cons (pe_ty (by rfl) (T.b_bool) (by decide +kernel)) pa_nil))))))) (pss_one (ps_ret pe_bl)) pss_nil)
  (pss_one (ps_ret (pe_chain op_le op_le (pv 1) (pv 0) (pv 2)))))
theorem c_is_whole (T : Txt w K mg) : U.Cal P w K mg base CX0 1 "is_whole" (sp_is_whole K) [] := by
  obtain ⟨fd, F⟩ := T.dd_is_whole
  have hb : Binds K fd ["thing", "least", "most"] [] := F.bindsN (ps := ["thing", "least", "most"]) (fun _ _ _ _ _ _ us hl => match us, hl with | [_, _, _], _ => rfl)
  exact ⟨⟨_, fd, _, [], F.ok (CX := CX0) sc_is_whole (len_is_whole K) (fun cdv A outer s H vs Q E hr h => ⟨t_is_whole K, body_is_whole T hr, pure_is_whole vs H Q E h⟩), T.g_is_whole, F.kp, hb, .nil⟩⟩
theorem body_is_term (T : Txt w K mg) {cdv : Value} {A : Around} {outer : List Env} {s : Shared} {H : Hp} {E : XK} (hr : Room 1 (A.deeper (envOfC "is_term" (defScope s_is_term) s.heap.objs.size (He.fAd K ("is_term", none)) cdv))) : PSs (cxOf CX0 P w K mg base M_is_term "is_term" (defScope s_is_term) (He.fAd K ("is_term", none)) cdv A outer s H E) (defBody s_is_term) (t_is_term K) := by
  have c_is_whole := c_is_whole (P := P) (base := base) T
  refine PSs.nox ?_
  exact (pss_cons (ps_if (pt_cmpR (op_eqD hr.units) (pv 0) (pe_tup (pa_cons pe_str pa_nil)) (nomark _)) (pss_one (ps_ret pe_bl)) pss_nil)
  (pss_cons (ps_if (PW.pt (pw_or (pt_not (pt_val (pe_callB call_isi (by rfl) (T.b_isinstance) (by decide +kernel) (pa_cons (pv 0) (pa_cons (pe_ty (by rfl) (T.b_tuple) (by decide +kernel)) pa_nil))))) (pw_or (pt_cmpR op_ne (pe_callB call_len_seq (by rfl) (T.b_len) (by decide +kernel) (pa_cons (pv 0) pa_nil)) pe_int (nomark _)) (pw_or1 (pt_not (pt_val (pe_callB call_isi (by rfl) (T.b_isinstance) (by decide +kernel) (pa_cons (pe_ix ix_tup (pv 0) pe_int (fun _ _ => rfl)) (pa_cons (pe_ty (by rfl) (T.b_str) (by decide +kernel)) pa_nil))))))))) (pss_one (ps_ret pe_bl)) pss_nil)
  (pss_cons (ps_if (pt_cmpR op_eq (pe_ix ix_tup (pv 0) pe_int (fun _ _ => rfl)) pe_str (nomark _)) (pss_one (ps_ret (U.pe_c (E := ES0) c_is_whole hr (by decide) ps0 (by rfl) (pa_cons (pe_ix ix_tup (pv 0) pe_int (fun _ _ => rfl)) (pa_cons pe_int (pa_cons (pe_gi (by rfl) T.v_MOST_DAYS) pa_nil)))))) pss_nil)
  (pss_one (ps_ret (pe_and (pe_cmpR op_eq (pe_ix ix_tup (pv 0) pe_int (fun _ _ => rfl)) pe_str (nomark _)) (pe_one (U.pe_c (E := ES0) c_is_whole hr (by decide) ps0 (by rfl) (pa_cons (pe_ix ix_tup (pv 0) pe_int (fun _ _ => rfl)) (pa_cons pe_int (pa_cons (pe_gi (by rfl) T.v_MOST_DAYS) pa_nil)))))))))))
theorem c_is_term (T : Txt w K mg) : U.Cal P w K mg base CX0 2 "is_term" (sp_is_term K) [] := by
  obtain ⟨fd, F⟩ := T.dd_is_term
  have hb : Binds K fd ["thing"] [] := F.bindsN (ps := ["thing"]) (fun _ _ _ _ _ _ us hl => match us, hl with | [_], _ => rfl)
  exact ⟨⟨_, fd, _, [], F.ok (CX := CX0) sc_is_term (len_is_term K) (fun cdv A outer s H vs Q E hr h => ⟨t_is_term K, body_is_term T hr, pure_is_term vs H Q E h⟩), T.g_is_term, F.kp, hb, .nil⟩⟩
theorem body_Kind___init__ (T : Txt w K mg) {cdv : Value} {A : Around} {outer : List Env} {s : Shared} {H : Hp} {E : XK} (hr : Room 2 (A.deeper (envOfC "Kind.__init__" (defScope s_Kind___init__) s.heap.objs.size (He.fAd K ("Kind", some "__init__")) cdv))) : PSs (cxOf (L2.CX P w) P w K mg base M_Kind___init__ "Kind.__init__" (defScope s_Kind___init__) (He.fAd K ("Kind", some "__init__")) cdv A outer s H E) (defBody s_Kind___init__) (t_Kind___init__ K (fun cls d _ H => E cls d H)) := by
  have c_is_name := c_is_name (P := P) (base := base) T
  have c_is_term := c_is_term (P := P) (base := base) T
  have c_is_whole := c_is_whole (P := P) (base := base) T
  have tk : L2.Takes (cxOf (L2.CX P w) P w K mg base M_Kind___init__ "Kind.__init__" (defScope s_Kind___init__) (He.fAd K ("Kind", some "__init__")) cdv A outer s H E) (fun cls d _ H => E cls d H) := L2.takes_of rfl rfl rfl rfl
  exact (pss_cons (ps_if (PW.pt (pw_or (pt_not (pt_val (U.pe_c (E := ES0) c_is_name hr (by decide) ps0 (by rfl) (pa_cons (pv 1) pa_nil)))) (pw_or (pt_not (pt_val (U.pe_c (E := ES0) c_is_term hr (by decide) ps0 (by rfl) (pa_cons (pv 2) pa_nil)))) (pw_or1 (pt_not (pt_val (U.pe_c (E := ES0) c_is_whole hr (by decide) ps0 (by rfl) (pa_cons (pv 3) (pa_cons pe_int (pa_cons (pe_gi (by rfl) T.v_MOST_PEOPLE) pa_nil)))))))))) (pss_one (ps_rs rfl tk T.e_BadKind T.g_BadKind (by rfl))) pss_nil)
  (pss_cons (ps_fd T.cl_Kind T.n_Kind_name (pv 0) (pv 1))
  (pss_cons (ps_fd T.cl_Kind T.n_Kind_term (pv 0) (pv 2))
  (pss_one (ps_fd T.cl_Kind T.n_Kind_least (pv 0) (pv 3))))))
theorem k_Kind (T : Txt w K mg) : U.Mak P w K mg base (L2.CX P w) 3 "Kind" (He.ga K "Kind") (sp_Kind___init__ K) [] := by
  obtain ⟨fd, F⟩ := T.dd_Kind___init__
  obtain ⟨ds, hv, hb⟩ := F.binds1 (ps := ["self", "name", "term", "least"]) 4 1 (by decide) (by decide) (fun T kV doc pm an cdv ct us its h1 h2 => match us, its, h1, h2 with | [u0, u1, u2, u3], [i0], _, _ => ⟨_, rfl, rfl⟩)
  exact ⟨⟨_, fd, _, ds, T.mk_Kind, F.ok (CX := (L2.CX P w)) sc_Kind___init__ (len_Kind___init__ K) (fun cdv A outer s H vs Q E hr h => ⟨t_Kind___init__ K (fun cls d _ H => E cls d H), body_Kind___init__ T hr, pure_Kind___init__ vs H Q E h⟩), T.g_Kind, hb, hv⟩⟩
theorem body_read_figures (T : Txt w K mg) {cdv : Value} {A : Around} {outer : List Env} {s : Shared} {H : Hp} {E : XK} (hr : Room 0 (A.deeper (envOfC "read_figures" (defScope s_read_figures) s.heap.objs.size (He.fAd K ("read_figures", none)) cdv))) : PSs (cxOf CX0 P w K mg base M_read_figures "read_figures" (defScope s_read_figures) (He.fAd K ("read_figures", none)) cdv A outer s H E) (defBody s_read_figures) (t_read_figures K) := by
  
  refine PSs.nox ?_
  exact (pss_cons (ps_if (PW.pt (pw_or (pt_cmpR op_eq (pv 0) pe_str (nomark _)) (pw_or (pt_cmpR op_gt (pe_callB call_len_str (by rfl) (T.b_len) (by decide +kernel) (pa_cons (pv 0) pa_nil)) pe_int (nomark _)) (pw_or1 (pt_not (pt_val (pe_callB (cr_all rfl) (by rfl) (T.b_all) (by decide +kernel) (pa_cons (pe_lc (own := [("sign", 1)]) (g := (gName 1)) (tt := tYes) rfl sc_read_figures.nd (pi_str (pv 0)) (blkOk_by (N := M_read_figures) (sc := defScope s_read_figures) (own := [("sign", 1)]) (by decide +kernel)) (fun _ _ _ _ _ => (pg_name (i := 1) sc_read_figures.nd rfl (by first | exact Or.inl rfl | exact Or.inr rfl))) (fun _ _ _ _ _ => pts_nil) (fun _ _ _ _ _ => (pe_cmpR op_in_sign (pv 1) (pe_gs (by rfl) T.v_FIGURES) (by rfl)))) pa_nil)))))))) (pss_one (ps_ret pe_non)) pss_nil)
  (pss_cons (ps_if (PW.pt (pw_and (pt_cmpR op_eq (pe_ix ix_str (pv 0) pe_int (fun _ _ => rfl)) pe_str (nomark _)) (pw_and1 (pt_cmpR op_ne (pv 0) pe_str (nomark _))))) (pss_one (ps_ret pe_non)) pss_nil)
  (pss_one (ps_ret (pe_callTy call_int_str (by rfl) (T.b_int) (by decide +kernel) (pa_cons (pv 0) pa_nil))))))
theorem c_read_figures (T : Txt w K mg) : U.Cal P w K mg base CX0 1 "read_figures" (sp_read_figures K) [] := by
  obtain ⟨fd, F⟩ := T.dd_read_figures
  have hb : Binds K fd ["text"] [] := F.bindsN (ps := ["text"]) (fun _ _ _ _ _ _ us hl => match us, hl with | [_], _ => rfl)
  exact ⟨⟨_, fd, _, [], F.ok (CX := CX0) sc_read_figures (len_read_figures K) (fun cdv A outer s H vs Q E hr h => ⟨t_read_figures K, body_read_figures T hr, pure_read_figures vs H Q E h⟩), T.g_read_figures, F.kp, hb, .nil⟩⟩
theorem body_read_least (T : Txt w K mg) {cdv : Value} {A : Around} {outer : List Env} {s : Shared} {H : Hp} {E : XK} (hr : Room 1 (A.deeper (envOfC "read_least" (defScope s_read_least) s.heap.objs.size (He.fAd K ("read_least", none)) cdv))) : PSs (cxOf CX0 P w K mg base M_read_least "read_least" (defScope s_read_least) (He.fAd K ("read_least", none)) cdv A outer s H E) (defBody s_read_least) (t_read_least K) := by
  have c_read_figures := c_read_figures (P := P) (base := base) T
  refine PSs.nox ?_
  exact (pss_cons (ps_if (pt_cmpR op_eq (pv 0) pe_str (nomark _)) (pss_one (ps_ret pe_int)) pss_nil)
  (pss_cons (ps_if (PW.pt (pw_or (pt_not (pt_val (pe_m1 PySem.F.slot_str_startswith PySem.F.type_str_startswith mt_startswith (pv 0) pe_str))) (pw_or1 (pt_not (pt_val (pe_m1 PySem.F.slot_str_endswith PySem.F.type_str_endswith mt_endswith (pv 0) pe_str)))))) (pss_one (ps_ret pe_non)) pss_nil)
  (pss_cons (ps_asg (U.pe_c (E := ES0) c_read_figures hr (by decide) ps0 (by rfl) (pa_cons (pe_slice sl_str (pv 0) (po_some pe_int) (po_some (pe_un un_neg pe_int))) pa_nil)) (pg_name (i := 1) sc_read_least.nd rfl (by first | exact Or.inl rfl | exact Or.inr rfl)))
  (pss_cons (ps_if (pt_cmpR op_eq (pv 1) pe_int (nomark _)) (pss_one (ps_ret pe_non)) pss_nil)
  (pss_one (ps_ret (pv 1)))))))
theorem c_read_least (T : Txt w K mg) : U.Cal P w K mg base CX0 2 "read_least" (sp_read_least K) [] := by
  obtain ⟨fd, F⟩ := T.dd_read_least
  have hb : Binds K fd ["text"] [] := F.bindsN (ps := ["text"]) (fun _ _ _ _ _ _ us hl => match us, hl with | [_], _ => rfl)
  exact ⟨⟨_, fd, _, [], F.ok (CX := CX0) sc_read_least (len_read_least K) (fun cdv A outer s H vs Q E hr h => ⟨t_read_least K, body_read_least T hr, pure_read_least vs H Q E h⟩), T.g_read_least, F.kp, hb, .nil⟩⟩
theorem body_read_term (T : Txt w K mg) {cdv : Value} {A : Around} {outer : List Env} {s : Shared} {H : Hp} {E : XK} (hr : Room 1 (A.deeper (envOfC "read_term" (defScope s_read_term) s.heap.objs.size (He.fAd K ("read_term", none)) cdv))) : PSs (cxOf CX0 P w K mg base M_read_term "read_term" (defScope s_read_term) (He.fAd K ("read_term", none)) cdv A outer s H E) (defBody s_read_term) (t_read_term K) := by
  have c_read_figures := c_read_figures (P := P) (base := base) T
  refine PSs.nox ?_
  exact (pss_cons (ps_if (pt_cmpR op_eq (pv 0) pe_str (nomark _)) (pss_one (ps_ret (pe_tup (pa_cons pe_str pa_nil)))) pss_nil)
  (pss_cons (ps_asg (pe_m1 PySem.F.slot_str_partition PySem.F.type_str_partition mt_partition (pv 0) pe_str) (pg_tup rfl (pgs_cons (pg_name (i := 1) sc_read_term.nd rfl (by first | exact Or.inl rfl | exact Or.inr rfl)) (pgs_cons (pg_name (i := 2) sc_read_term.nd rfl (by first | exact Or.inl rfl | exact Or.inr rfl)) (pgs_cons (pg_name (i := 3) sc_read_term.nd rfl (by first | exact Or.inl rfl | exact Or.inr rfl)) pgs_nil)))))
  (pss_cons (ps_asg (U.pe_c (E := ES0) c_read_figures hr (by decide) ps0 (by rfl) (pa_cons (pv 1) pa_nil)) (pg_name (i := 4) sc_read_term.nd rfl (by first | exact Or.inl rfl | exact Or.inr rfl)))
  (pss_cons (ps_if (PW.pt (pw_or (pt_cmpR op_isN (pv 4) pe_non (nomark _)) (pw_or1 (pt_cmpR op_notIn_seq (pv 3) (pe_lst (pa_cons pe_str (pa_cons pe_str pa_nil))) (by rfl))))) (pss_one (ps_ret pe_non)) pss_nil)
  (pss_one (ps_ret (pe_tup (pa_cons (pe_dget (hu_of hr) (pe_disp (pps_cons pe_str pe_str (pps_cons pe_str pe_str pps_nil)) (by rfl) (by rfl) (fun z => by cases z) (by decide)) (pv 3) (fun _ _ => rfl)) (pa_cons (pv 4) pa_nil)))))))))
theorem c_read_term (T : Txt w K mg) : U.Cal P w K mg base CX0 2 "read_term" (sp_read_term K) [] := by
  obtain ⟨fd, F⟩ := T.dd_read_term
  have hb : Binds K fd ["text"] [] := F.bindsN (ps := ["text"]) (fun _ _ _ _ _ _ us hl => match us, hl with | [_], _ => rfl)
  exact ⟨⟨_, fd, _, [], F.ok (CX := CX0) sc_read_term (len_read_term K) (fun cdv A outer s H vs Q E hr h => ⟨t_read_term K, body_read_term T hr, pure_read_term vs H Q E h⟩), T.g_read_term, F.kp, hb, .nil⟩⟩
theorem body_read_kind (T : Txt w K mg) {cdv : Value} {A : Around} {outer : List Env} {s : Shared} {H : Hp} {E : XK} (hr : Room 4 (A.deeper (envOfC "read_kind" (defScope s_read_kind) s.heap.objs.size (He.fAd K ("read_kind", none)) cdv))) : PSs (cxOf (L2.CX P w) P w K mg base M_read_kind "read_kind" (defScope s_read_kind) (He.fAd K ("read_kind", none)) cdv A outer s H E) (defBody s_read_kind) (t_read_kind K (fun cls d _ H => E cls d H)) := by
  have k_Kind := k_Kind (P := P) (base := base) T
  have c_is_name := c_is_name (P := P) (base := base) T
  have c_is_term := c_is_term (P := P) (base := base) T
  have c_is_whole := c_is_whole (P := P) (base := base) T
  have c_read_least := c_read_least (P := P) (base := base) T
  have c_read_term := c_read_term (P := P) (base := base) T
  have tk : L2.Takes (cxOf (L2.CX P w) P w K mg base M_read_kind "read_kind" (defScope s_read_kind) (He.fAd K ("read_kind", none)) cdv A outer s H E) (fun cls d _ H => E cls d H) := L2.takes_of rfl rfl rfl rfl
  exact (pss_cons (ps_asg pe_non (pg_name (i := 1) sc_read_kind.nd rfl (by first | exact Or.inl rfl | exact Or.inr rfl)))
  (pss_cons (ps_if (pt_val (pe_callB call_isi (by rfl) (T.b_isinstance) (by decide +kernel) (pa_cons (pv 0) (pa_cons (pe_ty (by rfl) (T.b_str) (by decide +kernel)) pa_nil)))) (pss_cons (ps_asg (pe_m1 PySem.F.slot_str_partition PySem.F.type_str_partition mt_partition (pv 0) pe_str) (pg_tup rfl (pgs_cons (pg_name (i := 2) sc_read_kind.nd rfl (by first | exact Or.inl rfl | exact Or.inr rfl)) (pgs_cons (pg_name (i := 3) sc_read_kind.nd rfl (by first | exact Or.inl rfl | exact Or.inr rfl)) (pgs_cons (pg_name (i := 4) sc_read_kind.nd rfl (by first | exact Or.inl rfl | exact Or.inr rfl)) pgs_nil)))))
  (pss_cons (ps_asg (pe_m1 PySem.F.slot_str_partition PySem.F.type_str_partition mt_partition (pv 4) pe_str) (pg_tup rfl (pgs_cons (pg_name (i := 5) sc_read_kind.nd rfl (by first | exact Or.inl rfl | exact Or.inr rfl)) (pgs_cons (pg_name (i := 6) sc_read_kind.nd rfl (by first | exact Or.inl rfl | exact Or.inr rfl)) (pgs_cons (pg_name (i := 7) sc_read_kind.nd rfl (by first | exact Or.inl rfl | exact Or.inr rfl)) pgs_nil)))))
  (pss_cons (ps_asg (U.pe_c (E := ES0) c_read_term hr (by decide) ps0 (by rfl) (pa_cons (pv 5) pa_nil)) (pg_name (i := 8) sc_read_kind.nd rfl (by first | exact Or.inl rfl | exact Or.inr rfl)))
  (pss_cons (ps_asg (U.pe_c (E := ES0) c_read_least hr (by decide) ps0 (by rfl) (pa_cons (pe_op op_add_str (pv 6) (pv 7)) pa_nil)) (pg_name (i := 9) sc_read_kind.nd rfl (by first | exact Or.inl rfl | exact Or.inr rfl)))
  (pss_one (ps_if (PW.pt (pw_and (pt_val (U.pe_c (E := ES0) c_is_name hr (by decide) ps0 (by rfl) (pa_cons (pv 2) pa_nil))) (pw_and (pt_val (U.pe_c (E := ES0) c_is_term hr (by decide) ps0 (by rfl) (pa_cons (pv 8) pa_nil))) (pw_and1 (pt_val (U.pe_c (E := ES0) c_is_whole hr (by decide) ps0 (by rfl) (pa_cons (pv 9) (pa_cons pe_int (pa_cons (pe_gi (by rfl) T.v_MOST_PEOPLE) pa_nil))))))))) (pss_one (ps_asg (U.pe_mk (E := (WE (fun cls d _ H => E cls d H))) k_Kind hr (by decide) (fun σ => passAt tk σ) (by rfl) (pa_cons (pv 2) (pa_cons (pv 8) (pa_cons (pv 9) pa_nil)))) (pg_name (i := 1) sc_read_kind.nd rfl (by first | exact Or.inl rfl | exact Or.inr rfl)))) pss_nil)))))) pss_nil)
  (pss_cons (ps_if (pt_cmpR op_isN (pv 1) pe_non (nomark _)) (pss_one (ps_rs rfl tk T.e_NoText T.g_NoText (by rfl))) pss_nil)
  (pss_one (ps_ret (pv 1))))))
theorem c_read_kind (T : Txt w K mg) : U.Cal P w K mg base (L2.CX P w) 5 "read_kind" (sp_read_kind K) [] := by
  obtain ⟨fd, F⟩ := T.dd_read_kind
  have hb : Binds K fd ["text"] [] := F.bindsN (ps := ["text"]) (fun _ _ _ _ _ _ us hl => match us, hl with | [_], _ => rfl)
  exact ⟨⟨_, fd, _, [], F.ok (CX := (L2.CX P w)) sc_read_kind (len_read_kind K) (fun cdv A outer s H vs Q E hr h => ⟨t_read_kind K (fun cls d _ H => E cls d H), body_read_kind T hr, pure_read_kind vs H Q E h⟩), T.g_read_kind, F.kp, hb, .nil⟩⟩
theorem body__law_told (T : Txt w K mg) {cdv : Value} {A : Around} {outer : List Env} {s : Shared} {H : Hp} {E : XK} (hr : Room 5 (A.deeper (envOfC "_law_told" (defScope s__law_told) s.heap.objs.size (He.fAd K ("_law_told", none)) cdv))) : PSs (cxOf CX0 P w K mg base M__law_told "_law_told" (defScope s__law_told) (He.fAd K ("_law_told", none)) cdv A outer s H E) (defBody s__law_told) (t__law_told K) := by
  have c_read_kind := c_read_kind (P := P) (base := base) T
  refine PSs.nox ?_
  exact (pss_cons (ps_asg pe_str (pg_name (i := 1) sc__law_told.nd rfl (by first | exact Or.inl rfl | exact Or.inr rfl)))
  (pss_cons (ps_tryE (i := 3) (tb := fun W => (tAsg (tCl (sp_read_kind K) [] (WE W) (tCons (tVar 0) tNil)) (gName 2))) (ts := fun ea cls ed => (tSeq (tAsg (tCB (rIsXT K ea cls ed) (tCons (tVar 3) (tCons (tTup (tCons (tC (.ref (He.ga K "Answered"))) (tCons (tC (.ref (He.ga K "BadKind"))) (tCons (tC (.ref (He.ga K "NoAnswer"))) (tCons (tC (.ref (He.ga K "NoDay"))) (tCons (tC (.ref (He.ga K "NoHold"))) (tCons (tC (.ref (He.ga K "NoKind"))) (tCons (tC (.ref (He.ga K "NoMatter"))) (tCons (tC (.ref (He.ga K "NoName"))) (tCons (tC (.ref (He.ga K "NoPerson"))) tNil)))))))))) tNil))) (gName 4))
  (tSeq (tAsg (tOrV (tVar 4) (tCB (rIsXT K ea cls ed) (tCons (tVar 3) (tCons (tTup (tCons (tC (.ref (He.ga K "NoRows"))) (tCons (tC (.ref (He.ga K "NoTelling"))) (tCons (tC (.ref (He.ga K "NoThing"))) (tCons (tC (.ref (He.ga K "NoWay"))) (tCons (tC (.ref (He.ga K "Taken"))) tNil)))))) tNil)))) (gName 4))
  (tIfS (tAnd (tB (tCB (rIsX K ea cls ed) (tCons (tVar 3) (tCons (tC (.ref (He.ga K "NoText"))) tNil)))) (tAnd (tB (tCB (rIsX K ea cls ed) (tCons (tVar 3) (tCons (tC (.ty "ValueError")) tNil)))) (tNot (tB (tVar 4))))) (tAsg (tC .non) (gName 1)) tNext)))) (Wout := fun _ _ _ _ => False) (u := (tAsg (tTup (tCons (tFd (He.ga K "Kind") (tVar 2) "name") (tCons (tFd (He.ga K "Kind") (tVar 2) "term") (tCons (tFd (He.ga K "Kind") (tVar 2) "least") tNil)))) (gName 1))) (pss_one (ps_asg (pe_tup (pa_cons (pe_fd T.cl_Kind T.n_Kind_name (pv 2)) (pa_cons (pe_fd T.cl_Kind T.n_Kind_term (pv 2)) (pa_cons (pe_fd T.cl_Kind T.n_Kind_least (pv 2)) pa_nil)))) (pg_name (i := 1) sc__law_told.nd rfl (by first | exact Or.inl rfl | exact Or.inr rfl)))) rfl rfl sc__law_told.nd rfl rfl ⟨rfl, by decide, .inl T.g_HallError⟩ takes0 (fun W pn xe tk => (ps_asg (U.pe_c (E := (WE W)) c_read_kind hr (by decide) (fun σ => passAt tk σ) (by rfl) (pa_cons (pv 0) pa_nil)) (pg_name (i := 2) sc__law_told.nd rfl (by first | exact Or.inl rfl | exact Or.inr rfl)))) (fun ea oe cls ed pn hz hf => (pss_cons (ps_asg (pe_callB (call_isXT hz hf) (by rfl) (T.b_isinstance) (by decide +kernel) (pa_cons (pv 3) (pa_cons (pe_tup (pa_cons (pe_gr (by rfl) T.g_Answered) (pa_cons (pe_gr (by rfl) T.g_BadKind) (pa_cons (pe_gr (by rfl) T.g_NoAnswer) (pa_cons (pe_gr (by rfl) T.g_NoDay) (pa_cons (pe_gr (by rfl) T.g_NoHold) (pa_cons (pe_gr (by rfl) T.g_NoKind) (pa_cons (pe_gr (by rfl) T.g_NoMatter) (pa_cons (pe_gr (by rfl) T.g_NoName) (pa_cons (pe_gr (by rfl) T.g_NoPerson) pa_nil)))))))))) pa_nil))) (pg_name (i := 4) sc__law_told.nd rfl (by first | exact Or.inl rfl | exact Or.inr rfl)))
  (pss_cons (ps_asg (pe_or (pv 4) (pe_one (pe_callB (call_isXT hz hf) (by rfl) (T.b_isinstance) (by decide +kernel) (pa_cons (pv 3) (pa_cons (pe_tup (pa_cons (pe_gr (by rfl) T.g_NoRows) (pa_cons (pe_gr (by rfl) T.g_NoTelling) (pa_cons (pe_gr (by rfl) T.g_NoThing) (pa_cons (pe_gr (by rfl) T.g_NoWay) (pa_cons (pe_gr (by rfl) T.g_Taken) pa_nil)))))) pa_nil))))) (pg_name (i := 4) sc__law_told.nd rfl (by first | exact Or.inl rfl | exact Or.inr rfl)))
  (pss_one (ps_if (PW.pt (pw_and (pt_val (pe_callB (call_isX hz hf) (by rfl) (T.b_isinstance) (by decide +kernel) (pa_cons (pv 3) (pa_cons (pe_gr (by rfl) T.g_NoText) pa_nil)))) (pw_and (pt_val (pe_callB (call_isX hz hf) (by rfl) (T.b_isinstance) (by decide +kernel) (pa_cons (pv 3) (pa_cons (pe_ty (by rfl) (T.b_ValueError) (by decide +kernel)) pa_nil)))) (pw_and1 (pt_not (pt_val (pv 4))))))) (pss_one (ps_asg pe_non (pg_name (i := 1) sc__law_told.nd rfl (by first | exact Or.inl rfl | exact Or.inr rfl)))) pss_nil))))))
  (pss_one (ps_ret (pv 1)))))
theorem c__law_told (T : Txt w K mg) : U.Cal P w K mg base CX0 6 "_law_told" (sp__law_told K) [] := by
  obtain ⟨fd, F⟩ := T.dd__law_told
  have hb : Binds K fd ["_law_text_here"] [] := F.bindsN (ps := ["_law_text_here"]) (fun _ _ _ _ _ _ us hl => match us, hl with | [_], _ => rfl)
  exact ⟨⟨_, fd, _, [], F.ok (CX := CX0) sc__law_told (len__law_told K) (fun cdv A outer s H vs Q E hr h => ⟨t__law_told K, body__law_told T hr, pure__law_told vs H Q E h⟩), T.g__law_told, F.kp, hb, .nil⟩⟩
theorem body_law (T : Txt w K mg) {cdv : Value} {A : Around} {outer : List Env} {s : Shared} {H : Hp} {E : XK} (hr : Room 6 (A.deeper (envOfC "law" (defScope s_law) s.heap.objs.size (He.fAd K ("law", none)) cdv))) : PSs (cxOf CX0 P w K mg base M_law "law" (defScope s_law) (He.fAd K ("law", none)) cdv A outer s H E) (defBody s_law) (t_law K) := by
  have c__law_any := c__law_any (P := P) (base := base) T
  have c__law_due := c__law_due (P := P) (base := base) T
  have c__law_pot := c__law_pot (P := P) (base := base) T
  have c__law_told := c__law_told (P := P) (base := base) T
  refine PSs.nox ?_
  exact (pss_cons (ps_for PassesOwn.never rfl (pi_list (pe_slice sl_list (pv 0) po_none (po_some pe_int))) (pg_name (i := 1) sc_law.nd rfl (by first | exact Or.inl rfl | exact Or.inr rfl)) (pss_cons (ps_asg (U.pe_c (E := ES0) c__law_any hr (by decide) ps0 (by rfl) (pa_cons (U.pe_c (E := ES0) c__law_pot hr (by decide) ps0 (by rfl) (pa_cons (pv 1) pa_nil)) pa_nil)) (pg_name (i := 2) sc_law.nd rfl (by first | exact Or.inl rfl | exact Or.inr rfl)))
  (pss_cons (ps_asg pe_non (pg_name (i := 3) sc_law.nd rfl (by first | exact Or.inl rfl | exact Or.inr rfl)))
  (pss_cons (ps_if (pt_val (pe_callB call_isi (by rfl) (T.b_isinstance) (by decide +kernel) (pa_cons (pv 2) (pa_cons (pe_ty (by rfl) (T.b_str) (by decide +kernel)) pa_nil)))) (pss_one (ps_asg (U.pe_c (E := ES0) c__law_due hr (by decide) ps0 (by rfl) (pa_cons (pv 2) pa_nil)) (pg_name (i := 3) sc_law.nd rfl (by first | exact Or.inl rfl | exact Or.inr rfl)))) pss_nil)
  (pss_one (ps_if (PW.pt (pw_or (pt_cmpR (op_neD hr.units) (U.pe_c (E := ES0) c__law_told hr (by decide) ps0 (by rfl) (pa_cons (pv 2) pa_nil)) (pv 3) (nomark _)) (pw_or1 (pt_cmpR (op_neD hr.units) (U.pe_c (E := ES0) c__law_told hr (by decide) ps0 (by rfl) (pa_cons (pv 2) pa_nil)) (pv 3) (nomark _))))) (pss_one (ps_ret pe_bl)) pss_nil))))))
  (pss_one (ps_ret (pe_and (pe_cmpR op_isN (U.pe_c (E := ES0) c__law_told hr (by decide) ps0 (by rfl) (pa_cons pe_str pa_nil)) pe_non (nomark _)) (pe_one (pe_cmpR (op_eqD hr.units) (U.pe_c (E := ES0) c__law_told hr (by decide) ps0 (by rfl) (pa_cons pe_str pa_nil)) (pe_tup (pa_cons pe_str (pa_cons (pe_tup (pa_cons pe_str pa_nil)) (pa_cons pe_int pa_nil)))) (nomark _)))))))
theorem ok_law (T : Txt w K mg) : ∃ fd : FuncData, (∀ (s : Shared) (v : Value), BindsTo s fd ⟨[v], []⟩ [("_law_script", v)]) ∧ ∀ base : Heap, FnOk P w K mg base CX0 7 (He.ga K "law") fd ["_law_script"] (sp_law K) := by
  obtain ⟨fd, F⟩ := T.dd_law
  have b := FunD.bindsA (ps := ["_law_script"]) F fun _ _ _ _ _ _ us hl => match us, hl with | [_], _ => rfl
  exact ⟨fd, fun s v => b s [v] rfl, fun base => F.ok (CX := CX0) sc_law (len_law K) (fun cdv A outer s H vs Q E hr h => ⟨t_law K, body_law T hr, pure_law vs H Q E h⟩)⟩
end
def loose0 : List Str := ["HallError", "NoName", "BadKind", "NoText", "NoPerson", "Taken", "NoKind", "NoMatter", "NoThing", "NoWay", "NoRows", "NoDay", "NoHold", "NoTelling", "NoAnswer", "Answered", "LETTERS", "MOST_LETTERS", "is_name", "MOST_DAYS", "MOST_PEOPLE", "FIGURES", "is_whole", "is_term", "Kind", "read_figures", "read_term", "read_least", "read_kind", "_law_cell"]
def loose1 : List Str := ["_law_pot", "_law_draw", "_law_word", "_law_is_name", "_law_figures", "_law_term", "_law_due", "_law_text", "_law_spoiled", "_law_any", "_law_told"]
def loose : List Str := loose0 ++ loose1
abbrev R : PySem.W.OpenRow := PySem.W.OpenLaw.row PySem.Challenge.rw_forgethall_k15_whole_kind_texts_judged
abbrev hk : PySem.W.Hook := He.hookX 6 fa fn [] [] ex
def ob (s : PySem.W.SharedT) : He.AlX := He.obsX 6 fa fn [] [] ex (HandSHeadRun.getT s)
theorem ob_eq (s : PySem.W.SharedT) : ob s = hk.obs s.abs := He.obsX_eq (HandSHeadRun.getT_eq s)
theorem run (w : World) : HandSHeadRun.RunEq R (PySem.W.view R.prog [45]) hk ob 6000 loose w := by
  intro os
  kernel_rfl
end G15
open PySem PySem.W PySem.Calls PyProof.Rows
set_option maxRecDepth 100000 in
theorem PySem.Challenge.cw_forgethall_k15_whole_kind_texts_judged_holds : PySem.Challenge.rw_forgethall_k15_whole_kind_texts_judged.Holds := by
  w_on; o_law
  refine HandSHeadRun.head_any (r := (OpenLaw.row PySem.Challenge.rw_forgethall_k15_whole_kind_texts_judged)) (q := view (OpenLaw.row PySem.Challenge.rw_forgethall_k15_whole_kind_texts_judged).prog [45]) (H := G15.hk) (ob := G15.ob) (M := 6000) (loose := G15.loose) (d := HandSHeadRun.topDef (OpenLaw.row PySem.Challenge.rw_forgethall_k15_whole_kind_texts_judged).prog 45) (kwd := []) G15.ob_eq
    (by kernel_rfl) (fun s => by kernel_rfl) G15.run (by kernel_rfl) (by kernel_rfl) (by kernel_rfl) (by rfl) (by first | assumption | decide +kernel) (by decide +kernel) ⟨rfl, rfl, rfl, rfl, rfl, by decide +kernel⟩ ?hw ?hc
  case hw => w_witness2
  case hc =>
    refine L2.walk_ofE (l := PySem.Challenge.rw_forgethall_k15_whole_kind_texts_judged) (n := 63) (k := 7) (x := "_law_script") (CX := L2.CX0) rfl (by decide) (by kernel_rfl) ⟨rfl, by decide, by decide⟩ ?F (fun _ _ _ _ z => z)
    intro w mg fa h Y GG hmg0
    obtain ⟨K, KX, c⟩ := Y
    have T : G15.Txt w K mg := ⟨h, KX, GG, c⟩
    have hmg : mg ("law" : PySem.Str) = some (.ref fa) := by
      have e : (HandSHeadRun.topDef (OpenLaw.row PySem.Challenge.rw_forgethall_k15_whole_kind_texts_judged).prog 45).name = ("law" : PySem.Str) := by kernel_rfl
      rw [← e]
      exact hmg0
    have e := hmg.symm.trans T.g_law
    cases e
    obtain ⟨fd, hb, hF⟩ := G15.ok_law (P := (PySem.Challenge.rw_forgethall_k15_whole_kind_texts_judged).prog) T
    exact ⟨K, fd, G15.sp_law K, KX, hb, fun H a ns hl hO hS => G15.law_asks K (U.errB_ok c.more) H a ns hl hO hS, fun base _ _ => hF base⟩
